import PyProof.Rows.All
import Wide.All
import OpenK.AllK
import Wide.FinOn
import HandS.ForMost
import HandS.ForExc
import HandS.CallSlots
import HandS.IsInst
import HandS.Wide
import HandS.Gcd
import HandS.Star
import HandS.Defaults
import HandS.ExcCtx
import KE.KExcSuper
import KE.KSuper
import PyProof.FString
import PyProof.FString4
import HandS.ExcSuper
import HandS.ExcIs
import HandS.TryOnly
import HandS.ExcField
import KE.KExcIs
import HandS.EndBits
import KE.RegKSuper
import HandS.Text
import HandS.StrMore
import HandS.FStr
import HandS.RaiseMore
import HandS.Style
import HandS.Codes
import HandS.SetTxtIn
import PyProof.StrBlock2
import PyProof.Rows.RuleDivmod
import HandS.More
import HandS.ClsMeth
import HandS.SetFor
import HandS.Conv
import HandS.OwnEq
import PySem.Challenge.RW_bidehall_k13_normal_form_of_rows
import HandS.WordsDict
import HandS.Dict
import HandS.HotCalls
import HandS.SetKeys
import HandS.SortRule
import HandS.SortOrd
import HandS.NamedTupSort
import HandS.ExcInit
import KE.GoesMore
import HandS.TupAny
import KE.SortData
import KE.DataCmp
import HandS.ListItems
import HandS.Property
import KE.GoesEnumKw
import HandS.DictComp
import HandS.Strs
import PyProof.EqAt
import KE.KCallOwn
import OpenK.KOps
import OpenK.KMeth
import KE.KItemsList
import KE.RegKParD
import HandS.SetBool
import KE.KDictPairs
import KE.OsSortAny
set_option Elab.async false
set_option linter.all false
set_option maxRecDepth 100000
set_option maxHeartbeats 8000000
namespace FD
open PySem L2
inductive Dt where
 | non | bl (b:Bool) | int (i:Int) | str (s:Str) | ty (n:String) | cls (a:Addr)
 | ad (k:Nat)
 | tup (ds:List Dt) | ptp (ds:List Dt) | ntp (ds:List Dt) | lst (ds:List Dt) | fls (ds:List Dt)
 | dic (ks:List Key) (ds:List Dt)
 | dit (ks:List (List Key)) (ds:List Dt)
 | obj (C:Addr) (ns:List Str) (ds:List Dt)
 | exn (a:Addr) (od:Option Addr) (C:Addr) (ns:List Str) (ds:List Dt)
def Dt.scal:Dt→Bool
 | .non=>true | .bl _=>true | .int _=>true | .str _=>true | .ty _=>true | .cls _=>true
 | _=>false
mutual
def Dt.pure:Dt→Bool
 | .non=>true | .bl _=>true | .int _=>true | .str _=>true | .ty _=>true | .cls _=>true
 | .tup ds=>Dt.CA ds
 | .ptp ds=>Dt.CA ds
 | .ntp ds=>Dt.CA ds
 | _=>false
def Dt.CA:List Dt→Bool
 | []=>true
 | d :: ds=>d.pure && Dt.CA ds
end
mutual
def Dt.nl:Dt→Bool
 | .non=>true | .bl _=>true | .int _=>true | .str _=>true | .ty _=>true | .cls _=>true
 | .ad _=>true
 | .tup ds=>Dt.Sm ds
 | .ptp ds=>Dt.Sm ds
 | .ntp ds=>Dt.Sm ds
 | .obj _ _ ds=>Dt.Sm ds
 | _=>false
def Dt.Sm:List Dt→Bool
 | []=>true
 | d :: ds=>d.nl && Dt.Sm ds
end
structure Exn where
 cls:Addr
 fs:List (Str × Dt)
inductive Out (α:Type) where
 | ok (a:α) | exc (x:Exn) | bad
def Out.bind{α β:Type}(o:Out α)(f:α→Out β):Out β:=match o with
 | .ok a=>f a
 | .exc x=>.exc x
 | .bad=>.bad
@[simp] theorem Out.AB{α β:Type}(a:α)(f:α→Out β):(Out.ok a).bind f=f a:=rfl
theorem Out.bind_assoc{α β γ:Type}(o:Out α)(f:α→Out β)(g:β→Out γ):(o.bind f).bind g=o.bind fun a=>(f a).bind g:=by
 cases o <;> rfl
theorem Out.L8{α β:Type}{o:Out α}{f:α→Out β}{b:β}(h:o.bind f=.ok b):∃ a,o=.ok a∧f a=.ok b:=by
 cases o with
 | ok a=>exact ⟨a,rfl,h⟩
 | exc x=>cases h
 | bad=>cases h
abbrev Ad:=Addr→Prop
structure Mu where
 l:List Addr
 fix:Bool
structure KM where
 K:PySem.W.Frag
 mu:Mu
def ak(K:PySem.W.Frag)(a:Addr)(xs:List V):Prop:=∃ (o:Obj) (Hw:Array Value) (n:Nat),K.lookup a=some o∧o.cls=.type "tuple"∧o.data=.seq Hw n∧Hw.size≤sizeLine∧Vals xs Hw.toList
def aa(K:PySem.W.Frag)(a:Addr)(xs:List V):Prop:=∃ (o:Obj) (Hw:Array Value) (n:Nat),K.lookup a=some o∧o.cls=.type "list"∧o.dict=none∧o.data=.seq Hw n∧Hw.size≤sizeLine∧Vals xs Hw.toList
def PQ(H:Hp)(a:Addr)(kvs:List (Key × V)):Prop:=H a=some (.dK kvs)∨∃ o,H a=some (.frz o (.dK kvs))
def OT(H:Hp)(a:Addr)(kvs:List (List Key × V)):Prop:=H a=some (.dT kvs)∨∃ o,H a=some (.frz o (.dT kvs))
mutual
def Rep(K:KM)(H:Hp)(A:Ad):Dt→V→Prop
 | .non,v=>v=.non
 | .bl b,v=>v=.bl b
 | .int i,v=>v=.int i
 | .str s,v=>v=.str s
 | .ty n,v=>v=.ty n
 | .cls a,v=>v=.ref a
 | .ad k,v=>∃ a,K.mu.l[k]? = some a∧v=.ref a
 | .tup ds,v=>∃ a vs,v=.ref a∧((¬ A a∧H a=some (.tup vs))∨ak K.K a vs)∧Ag K H A ds vs
 | .ptp ds,v=>∃ a vs,v=.ref a∧(¬ A a∧∃ o,H a=some (.frz o (.tup vs))∧o.dict=none)∧Ag K H A ds vs
 | .ntp ds,v=>∃ a vs,v=.ref a∧(¬ A a∧H a=some (.tup vs))∧Ag K H A ds vs
 | .lst ds,v=>∃ a vs,v=.ref a∧¬ A a∧H a=some (.lst vs)∧Ag K H A ds vs
 | .fls ds,v=>∃ a vs,v=.ref a∧((¬ A a∧∃ o,H a=some (.frz o (.lst vs)))∨aa K.K a vs)∧Ag K H A ds vs
 | .dic ks ds,v=>∃ a kvs,v=.ref a∧¬ A a∧PQ H a kvs∧kvs.map (·.1)=ks∧Ag K H A ds (kvs.map (·.2))
 | .dit ks ds,v=>∃ a kvs,v=.ref a∧¬ A a∧OT H a kvs∧kvs.map (·.1)=ks∧Ag K H A ds (kvs.map (·.2))
 | .obj C ns ds,v=>∃ a dx fs,v=.ref a∧¬ A a∧H a=some (.ins C dx fs)∧fs.map (·.1)=ns∧Ag K H A ds (fs.map (·.2))
 | .exn a od _ ns ds,v=>∃ fs:List (Str × V),v=.ref a∧((od=none∧fs=[])∨∃ d,od=some d∧¬ A d∧H d=some (.xd fs))∧fs.map (·.1)=ns∧Ag K H A ds (fs.map (·.2))
def Ag(K:KM)(H:Hp)(A:Ad):List Dt→List V→Prop
 | [],vs=>vs=[]
 | d :: ds,vs=>∃ v r,vs=v :: r∧Rep K H A d v∧Ag K H A ds r
end
structure Xt (m m':Mu):Prop where
 get:∀ (k:Nat) (a:Addr),m.l[k]? = some a→m'.l[k]? = some a
 fx:m'.fix=m.fix
 stay:m.fix=true→m'=m
theorem Xt.refl(m:Mu):Xt m m:=⟨fun _ _ h=>h,rfl,fun _=>rfl⟩
theorem Xt.trans{m m' m'':Mu}(h:Xt m m')(h':Xt m' m''):Xt m m'':=⟨fun k a e=>h'.get k a (h.get k a e),h'.fx.trans h.fx,fun e=>(h'.stay (h.fx.trans e)).trans (h.stay e)⟩
theorem PQ.keep{H H':Hp}{a:Addr}{kvs:List (Key × V)}(hk:∀ o,H a=some o→H' a=some o)(h:PQ H a kvs):PQ H' a kvs:=h.imp (hk _) fun ⟨o,e⟩=>⟨o,hk _ e⟩
theorem OT.keep{H H':Hp}{a:Addr}{kvs:List (List Key × V)}(hk:∀ o,H a=some o→H' a=some o)(h:OT H a kvs):OT H' a kvs:=h.imp (hk _) fun ⟨o,e⟩=>⟨o,hk _ e⟩
section
variable {F:PySem.W.Frag} {m m':Mu} {K:KM} {H H':Hp} {A A':Ad}
mutual
theorem Rep.gen(hm:∀ (k:Nat) (a:Addr),m.l[k]? = some a→m'.l[k]? = some a)(hk:∀ a o,¬ A a→H a=some o→H' a=some o)(ha:∀ a,A' a→A a):∀ (d:Dt) (v:V),Rep ⟨F,m⟩ H A d v→Rep ⟨F,m'⟩ H' A' d v
 | .non,_,h=>h
 | .bl _,_,h=>h
 | .int _,_,h=>h
 | .str _,_,h=>h
 | .ty _,_,h=>h
 | .cls _,_,h=>h
 | .ad k,_,h=>by
  unfold Rep at h ⊢
  obtain ⟨a,e,h⟩:=h
  exact ⟨a,hm k a e,h⟩
 | .tup ds,_,h=>by
  unfold Rep at h ⊢
  obtain ⟨a,vs,e,h1,h2⟩:=h
  exact ⟨a,vs,e,h1.imp (fun ⟨x,y⟩=>⟨fun z=>x (ha _ z),hk _ _ x y⟩) id,Ag.gen hm hk ha ds vs h2⟩
 | .ptp ds,_,h=>by
  unfold Rep at h ⊢
  obtain ⟨a,vs,e,⟨x,o,y,yd⟩,h2⟩:=h
  exact ⟨a,vs,e,⟨fun z=>x (ha _ z),o,hk _ _ x y,yd⟩,Ag.gen hm hk ha ds vs h2⟩
 | .ntp ds,_,h=>by
  unfold Rep at h ⊢
  obtain ⟨a,vs,e,⟨x,y⟩,h2⟩:=h
  exact ⟨a,vs,e,⟨fun z=>x (ha _ z),hk _ _ x y⟩,Ag.gen hm hk ha ds vs h2⟩
 | .lst ds,_,h=>by
  unfold Rep at h ⊢
  obtain ⟨a,vs,e,x,y,h2⟩:=h
  exact ⟨a,vs,e,fun z=>x (ha _ z),hk _ _ x y,Ag.gen hm hk ha ds vs h2⟩
 | .fls ds,_,h=>by
  unfold Rep at h ⊢
  obtain ⟨a,vs,e,h1,h2⟩:=h
  exact ⟨a,vs,e,h1.imp (fun ⟨x,o,y⟩=>⟨fun z=>x (ha _ z),o,hk _ _ x y⟩) id,Ag.gen hm hk ha ds vs h2⟩
 | .dic ks ds,_,h=>by
  unfold Rep at h ⊢
  obtain ⟨a,kvs,e,x,y,h1,h2⟩:=h
  exact ⟨a,kvs,e,fun z=>x (ha _ z),y.keep (hk _ · x),h1,Ag.gen hm hk ha ds _ h2⟩
 | .dit ks ds,_,h=>by
  unfold Rep at h ⊢
  obtain ⟨a,kvs,e,x,y,h1,h2⟩:=h
  exact ⟨a,kvs,e,fun z=>x (ha _ z),y.keep (hk _ · x),h1,Ag.gen hm hk ha ds _ h2⟩
 | .exn a od C ns ds,_,h=>by
  unfold Rep at h ⊢
  obtain ⟨fs,e,h1,h2,h3⟩:=h
  exact ⟨fs,e,h1.imp id (fun ⟨d,e1,x,y⟩=>⟨d,e1,fun z=>x (ha _ z),hk _ _ x y⟩),h2,Ag.gen hm hk ha ds _ h3⟩
 | .obj C ns ds,_,h=>by
  unfold Rep at h ⊢
  obtain ⟨a,dx,fs,e,x,y,h1,h2⟩:=h
  exact ⟨a,dx,fs,e,fun z=>x (ha _ z),hk _ _ x y,h1,Ag.gen hm hk ha ds _ h2⟩
theorem Ag.gen(hm:∀ (k:Nat) (a:Addr),m.l[k]? = some a→m'.l[k]? = some a)(hk:∀ a o,¬ A a→H a=some o→H' a=some o)(ha:∀ a,A' a→A a):∀ (ds:List Dt) (vs:List V),Ag ⟨F,m⟩ H A ds vs→Ag ⟨F,m'⟩ H' A' ds vs
 | [],_,h=>h
 | d :: ds,_,h=>by
  unfold Ag at h ⊢
  obtain ⟨v,r,e,h1,h2⟩:=h
  exact ⟨v,r,e,Rep.gen hm hk ha d v h1,Ag.gen hm hk ha ds r h2⟩
end
theorem Rep.mono(hk:∀ a o,¬ A a→H a=some o→H' a=some o)(ha:∀ a,A' a→A a)(d:Dt)(v:V)(h:Rep K H A d v):Rep K H' A' d v:=Rep.gen (F:=K.K) (m:=K.mu) (m':=K.mu) (fun _ _ e=>e) hk ha d v h
theorem Ag.mono(hk:∀ a o,¬ A a→H a=some o→H' a=some o)(ha:∀ a,A' a→A a)(d:List Dt)(v:List V)(h:Ag K H A d v):Ag K H' A' d v:=Ag.gen (F:=K.K) (m:=K.mu) (m':=K.mu) (fun _ _ e=>e) hk ha d v h
theorem Rep.ext(hm:Xt m m'){d:Dt}{v:V}(h:Rep ⟨F,m⟩ H A d v):Rep ⟨F,m'⟩ H A d v:=Rep.gen hm.get (fun _ _ _ e=>e) (fun _ z=>z) d v h
theorem Ag.ext(hm:Xt m m'){d:List Dt}{v:List V}(h:Ag ⟨F,m⟩ H A d v):Ag ⟨F,m'⟩ H A d v:=Ag.gen hm.get (fun _ _ _ e=>e) (fun _ z=>z) d v h
theorem Rep.fx{l:List Addr}{b b':Bool}{d:Dt}{v:V}(h:Rep ⟨F,⟨l,b⟩⟩ H A d v):Rep ⟨F,⟨l,b'⟩⟩ H A d v:=Rep.gen (m:=⟨l,b⟩) (m':=⟨l,b'⟩) (fun _ _ e=>e) (fun _ _ _ e=>e) (fun _ z=>z) d v h
theorem Ag.fx{l:List Addr}{b b':Bool}{d:List Dt}{v:List V}(h:Ag ⟨F,⟨l,b⟩⟩ H A d v):Ag ⟨F,⟨l,b'⟩⟩ H A d v:=Ag.gen (m:=⟨l,b⟩) (m':=⟨l,b'⟩) (fun _ _ e=>e) (fun _ _ _ e=>e) (fun _ z=>z) d v h
theorem Rep.same(hs:Same H H'){d:Dt}{v:V}(h:Rep K H A d v):Rep K H' A d v:=Rep.mono (fun a o _ e=>hs a o e) (fun _ z=>z) d v h
theorem Ag.same(hs:Same H H'){d:List Dt}{v:List V}(h:Ag K H A d v):Ag K H' A d v:=Ag.mono (fun a o _ e=>hs a o e) (fun _ z=>z) d v h
theorem Rep.Bv(ha:∀ a,A' a→A a){d:Dt}{v:V}(h:Rep K H A d v):Rep K H A' d v:=Rep.mono (fun a o _ e=>e) ha d v h
theorem Ag.Bv(ha:∀ a,A' a→A a){d:List Dt}{v:List V}(h:Ag K H A d v):Ag K H A' d v:=Ag.mono (fun a o _ e=>e) ha d v h
theorem Rep.scal{d:Dt}{v:V}(s:d.scal=true)(h:Rep K H A d v):Rep K H' A' d v:=by
 cases d <;> first | exact h | (cases s)
mutual
theorem Rep.Hi(hm:∀ a,A' a→Mut (H a)):∀ (d:Dt) (v:V),d.pure=true→Rep ⟨F,m⟩ H A d v→Rep ⟨F,m'⟩ H A' d v
 | .non,_,_,h=>h
 | .bl _,_,_,h=>h
 | .int _,_,_,h=>h
 | .str _,_,_,h=>h
 | .ty _,_,_,h=>h
 | .cls _,_,_,h=>h
 | .tup ds,_,p,h=>by
  unfold Rep at h ⊢
  obtain ⟨a,vs,e,h1,h2⟩:=h
  exact ⟨a,vs,e,h1.imp (fun ⟨x,y⟩=>⟨fun z=>by have q:=hm a z; rw [y] at q; exact q,y⟩) id,Ag.Hi hm ds vs (by unfold Dt.pure at p; exact p) h2⟩
 | .ptp ds,_,p,h=>by
  unfold Rep at h ⊢
  obtain ⟨a,vs,e,⟨x,o,y,yd⟩,h2⟩:=h
  exact ⟨a,vs,e,⟨fun z=>by have q:=hm a z; rw [y] at q; exact q,o,y,yd⟩,Ag.Hi hm ds vs (by unfold Dt.pure at p; exact p) h2⟩
 | .ntp ds,_,p,h=>by
  unfold Rep at h ⊢
  obtain ⟨a,vs,e,⟨x,y⟩,h2⟩:=h
  exact ⟨a,vs,e,⟨fun z=>by have q:=hm a z; rw [y] at q; exact q,y⟩,Ag.Hi hm ds vs (by unfold Dt.pure at p; exact p) h2⟩
 | .ad _,_,p,_=>by simp [Dt.pure] at p
 | .lst ds,_,p,_=>by simp [Dt.pure] at p
 | .fls ds,_,p,_=>by simp [Dt.pure] at p
 | .dic ks ds,_,p,_=>by simp [Dt.pure] at p
 | .dit ks ds,_,p,_=>by simp [Dt.pure] at p
 | .obj C ns ds,_,p,_=>by simp [Dt.pure] at p
 | .exn _ _ _ _ _,_,p,_=>by simp [Dt.pure] at p
theorem Ag.Hi(hm:∀ a,A' a→Mut (H a)):∀ (ds:List Dt) (vs:List V),Dt.CA ds=true→Ag ⟨F,m⟩ H A ds vs→Ag ⟨F,m'⟩ H A' ds vs
 | [],_,_,h=>h
 | d :: ds,_,p,h=>by
  unfold Ag at h ⊢
  obtain ⟨v,r,e,h1,h2⟩:=h
  unfold Dt.CA at p
  rw [Bool.and_eq_true] at p
  exact ⟨v,r,e,Rep.Hi hm d v p.1 h1,Ag.Hi hm ds r p.2 h2⟩
end
theorem Rep.pure(hm:∀ a,A' a→Mut (H a))(d:Dt)(v:V)(p:d.pure=true)(h:Rep K H A d v):Rep K H A' d v:=Rep.Hi (F:=K.K) (m:=K.mu) (m':=K.mu) hm d v p h
theorem Ag.pure(hm:∀ a,A' a→Mut (H a))(d:List Dt)(v:List V)(p:Dt.CA d=true)(h:Ag K H A d v):Ag K H A' d v:=Ag.Hi (F:=K.K) (m:=K.mu) (m':=K.mu) hm d v p h
def LD:Option HO→Prop
 | some (.lst _)=>True
 | some (.dK _)=>True
 | some (.dT _)=>True
 | _=>False
mutual
theorem Rep.nl(hm:∀ a,A' a→A a∨LD (H a)):∀ (d:Dt) (v:V),d.nl=true→Rep K H A d v→Rep K H A' d v
 | .non,_,_,h=>h
 | .bl _,_,_,h=>h
 | .int _,_,_,h=>h
 | .str _,_,_,h=>h
 | .ty _,_,_,h=>h
 | .cls _,_,_,h=>h
 | .ad _,_,_,h=>h
 | .tup ds,_,p,h=>by
  unfold Rep at h ⊢
  obtain ⟨a,vs,e,h1,h2⟩:=h
  exact ⟨a,vs,e,h1.imp (fun ⟨x,y⟩=>⟨fun z=>(hm a z).elim x fun q=>by rw [y] at q; exact q,y⟩) id,Ag.nl hm ds vs (by unfold Dt.nl at p; exact p) h2⟩
 | .ptp ds,_,p,h=>by
  unfold Rep at h ⊢
  obtain ⟨a,vs,e,⟨x,o,y,yd⟩,h2⟩:=h
  exact ⟨a,vs,e,⟨fun z=>(hm a z).elim x fun q=>by rw [y] at q; exact q,o,y,yd⟩,Ag.nl hm ds vs (by unfold Dt.nl at p; exact p) h2⟩
 | .ntp ds,_,p,h=>by
  unfold Rep at h ⊢
  obtain ⟨a,vs,e,⟨x,y⟩,h2⟩:=h
  exact ⟨a,vs,e,⟨fun z=>(hm a z).elim x fun q=>by rw [y] at q; exact q,y⟩,Ag.nl hm ds vs (by unfold Dt.nl at p; exact p) h2⟩
 | .obj C ns ds,_,p,h=>by
  unfold Rep at h ⊢
  obtain ⟨a,dx,fs,e,x,y,h1,h2⟩:=h
  exact ⟨a,dx,fs,e,fun z=>(hm a z).elim x fun q=>by rw [y] at q; exact q,y,h1,Ag.nl hm ds _ (by unfold Dt.nl at p; exact p) h2⟩
 | .lst ds,_,p,_=>by simp [Dt.nl] at p
 | .fls ds,_,p,_=>by simp [Dt.nl] at p
 | .dic ks ds,_,p,_=>by simp [Dt.nl] at p
 | .dit ks ds,_,p,_=>by simp [Dt.nl] at p
 | .exn _ _ _ _ _,_,p,_=>by simp [Dt.nl] at p
theorem Ag.nl(hm:∀ a,A' a→A a∨LD (H a)):∀ (ds:List Dt) (vs:List V),Dt.Sm ds=true→Ag K H A ds vs→Ag K H A' ds vs
 | [],_,_,h=>h
 | d :: ds,_,p,h=>by
  unfold Ag at h ⊢
  obtain ⟨v,r,e,h1,h2⟩:=h
  unfold Dt.Sm at p
  rw [Bool.and_eq_true] at p
  exact ⟨v,r,e,Rep.nl hm d v p.1 h1,Ag.nl hm ds r p.2 h2⟩
end
theorem PQ.some{a:Addr}{kvs:List (Key × V)}(h:PQ H a kvs):H a≠none:=fun z=>h.elim (fun e=>by rw [z] at e; cases e) fun ⟨o,e⟩=>by rw [z] at e; cases e
theorem OT.some{a:Addr}{kvs:List (List Key × V)}(h:OT H a kvs):H a≠none:=fun z=>h.elim (fun e=>by rw [z] at e; cases e) fun ⟨o,e⟩=>by rw [z] at e; cases e
mutual
theorem Rep.DL:∀ (d:Dt) (v:V),Rep K H A d v→Rep K H (fun a=>A a∨H a=none) d v
 | .non,_,h=>h
 | .bl _,_,h=>h
 | .int _,_,h=>h
 | .str _,_,h=>h
 | .ty _,_,h=>h
 | .cls _,_,h=>h
 | .ad _,_,h=>h
 | .tup ds,_,h=>by
  unfold Rep at h ⊢
  obtain ⟨a,vs,e,h1,h2⟩:=h
  exact ⟨a,vs,e,h1.imp (fun ⟨x,y⟩=>⟨fun z=>z.elim x (fun z=>by rw [y] at z; cases z),y⟩) id,Ag.DL ds vs h2⟩
 | .ptp ds,_,h=>by
  unfold Rep at h ⊢
  obtain ⟨a,vs,e,⟨x,o,y,yd⟩,h2⟩:=h
  exact ⟨a,vs,e,⟨fun z=>z.elim x (fun z=>by rw [y] at z; cases z),o,y,yd⟩,Ag.DL ds vs h2⟩
 | .ntp ds,_,h=>by
  unfold Rep at h ⊢
  obtain ⟨a,vs,e,⟨x,y⟩,h2⟩:=h
  exact ⟨a,vs,e,⟨fun z=>z.elim x (fun z=>by rw [y] at z; cases z),y⟩,Ag.DL ds vs h2⟩
 | .lst ds,_,h=>by
  unfold Rep at h ⊢
  obtain ⟨a,vs,e,x,y,h2⟩:=h
  exact ⟨a,vs,e,fun z=>z.elim x (fun z=>by rw [y] at z; cases z),y,Ag.DL ds vs h2⟩
 | .fls ds,_,h=>by
  unfold Rep at h ⊢
  obtain ⟨a,vs,e,h1,h2⟩:=h
  exact ⟨a,vs,e,h1.imp (fun ⟨x,o,y⟩=>⟨fun z=>z.elim x (fun z=>by rw [y] at z; cases z),o,y⟩) id,Ag.DL ds vs h2⟩
 | .dic ks ds,_,h=>by
  unfold Rep at h ⊢
  obtain ⟨a,kvs,e,x,y,h1,h2⟩:=h
  exact ⟨a,kvs,e,fun z=>z.elim x y.some,y,h1,Ag.DL ds _ h2⟩
 | .dit ks ds,_,h=>by
  unfold Rep at h ⊢
  obtain ⟨a,kvs,e,x,y,h1,h2⟩:=h
  exact ⟨a,kvs,e,fun z=>z.elim x y.some,y,h1,Ag.DL ds _ h2⟩
 | .exn a od C ns ds,_,h=>by
  unfold Rep at h ⊢
  obtain ⟨fs,e,h1,h2,h3⟩:=h
  exact ⟨fs,e,h1.imp id (fun ⟨d,e1,x,y⟩=>⟨d,e1,fun z=>z.elim x (fun z=>by rw [y] at z; cases z),y⟩),h2,Ag.DL ds _ h3⟩
 | .obj C ns ds,_,h=>by
  unfold Rep at h ⊢
  obtain ⟨a,dx,fs,e,x,y,h1,h2⟩:=h
  exact ⟨a,dx,fs,e,fun z=>z.elim x (fun z=>by rw [y] at z; cases z),y,h1,Ag.DL ds _ h2⟩
theorem Ag.DL:∀ (ds:List Dt) (vs:List V),Ag K H A ds vs→Ag K H (fun a=>A a∨H a=none) ds vs
 | [],_,h=>h
 | d :: ds,_,h=>by
  unfold Ag at h ⊢
  obtain ⟨v,r,e,h1,h2⟩:=h
  exact ⟨v,r,e,Rep.DL d v h1,Ag.DL ds r h2⟩
end
theorem Rep.fresh{p:Addr}(hp:H p=none)(d:Dt)(v:V)(h:Rep K H A d v):Rep K H (fun a=>A a∨a=p) d v:=(Rep.DL d v h).Bv fun a z=>z.imp id fun e=>by rw [e]; exact hp
theorem Ag.fresh{p:Addr}(hp:H p=none)(d:List Dt)(v:List V)(h:Ag K H A d v):Ag K H (fun a=>A a∨a=p) d v:=(Ag.DL d v h).Bv fun a z=>z.imp id fun e=>by rw [e]; exact hp
theorem Ag.length:∀ {ds:List Dt} {vs:List V},Ag K H A ds vs→vs.length=ds.length
 | [],_,h=>by unfold Ag at h; subst h; rfl
 | d :: ds,_,h=>by
  unfold Ag at h
  obtain ⟨v,r,rfl,_,h2⟩:=h
  simp [Ag.length h2]
theorem Ag.get:∀ {ds:List Dt} {vs:List V} {i:Nat} {d:Dt},Ag K H A ds vs→ds[i]? = some d→∃ v,vs[i]? = some v∧Rep K H A d v
 | [],_,_,_,_,e=>by simp at e
 | d :: ds,_,0,_,h,e=>by
  unfold Ag at h
  obtain ⟨v,r,rfl,h1,h2⟩:=h
  simp at e
  subst e
  exact ⟨v,rfl,h1⟩
 | d :: ds,_,i + 1,_,h,e=>by
  unfold Ag at h
  obtain ⟨v,r,rfl,h1,h2⟩:=h
  obtain ⟨u,e1,r1⟩:=Ag.get (i:=i) h2 (by simpa using e)
  exact ⟨u,by simpa using e1,r1⟩
theorem Ag.append:∀ {ds es:List Dt} {vs us:List V},Ag K H A ds vs→Ag K H A es us→Ag K H A (ds ++ es) (vs ++ us)
 | [],_,_,_,h,g=>by unfold Ag at h; subst h; exact g
 | d :: ds,_,_,_,h,g=>by
  unfold Ag at h
  obtain ⟨v,r,rfl,h1,h2⟩:=h
  show Ag K H A (d :: (ds ++ _)) (v :: (r ++ _))
  unfold Ag
  exact ⟨v,_,rfl,h1,Ag.append h2 g⟩
theorem Ag.nil:Ag K H A [] []:=by unfold Ag; rfl
theorem Ag.cons{d:Dt}{ds:List Dt}{v:V}{vs:List V}(h:Rep K H A d v)(g:Ag K H A ds vs):Ag K H A (d :: ds) (v :: vs):=by
 unfold Ag
 exact ⟨v,vs,rfl,h,g⟩
theorem Ag.set:∀ {ds:List Dt} {vs:List V} (i:Nat) {d:Dt} {v:V},Ag K H A ds vs→Rep K H A d v→Ag K H A (ds.set i d) (vs.set i v)
 | [],_,_,_,_,h,_=>by unfold Ag at h; subst h; exact Ag.nil
 | _ :: _,_,0,_,_,h,g=>by
  unfold Ag at h
  obtain ⟨v,r,rfl,h1,h2⟩:=h
  exact Ag.cons g h2
 | _ :: _,_,i + 1,_,_,h,g=>by
  unfold Ag at h
  obtain ⟨v,r,rfl,h1,h2⟩:=h
  exact Ag.cons h1 (Ag.set i h2 g)
theorem Ag.take:∀ {ds:List Dt} {vs:List V} (n:Nat),Ag K H A ds vs→Ag K H A (ds.take n) (vs.take n)
 | [],_,n,h=>by unfold Ag at h; subst h; simpa using Ag.nil
 | _ :: _,_,0,h=>by simpa using Ag.nil
 | _ :: _,_,n + 1,h=>by
  unfold Ag at h
  obtain ⟨v,r,rfl,h1,h2⟩:=h
  exact Ag.cons h1 (Ag.take n h2)
theorem Ag.drop:∀ {ds:List Dt} {vs:List V} (n:Nat),Ag K H A ds vs→Ag K H A (ds.drop n) (vs.drop n)
 | [],_,n,h=>by unfold Ag at h; subst h; simpa using Ag.nil
 | _ :: _,_,0,h=>h
 | _ :: _,_,n + 1,h=>by
  unfold Ag at h
  obtain ⟨v,r,rfl,h1,h2⟩:=h
  exact Ag.drop n h2
theorem Ag.ints{ns:List Int}{vs:List V}(h:Ag K H A (ns.map Dt.int) vs):vs=ns.map V.int:=by
 induction ns generalizing vs with
 | nil=>unfold Ag at h; exact h
 | cons n ns ih=>
  unfold Ag at h
  obtain ⟨v,r,rfl,h1,h2⟩:=h
  have e:v=.int n:=h1
  rw [e,ih h2]
  rfl
end
inductive Cell where
 | gone | lst (ds:List Dt) | dic (ks:List Key) (ds:List Dt) | ins (C:Addr) (ns:List Str) (ds:List Dt)
def Cell.live:Cell→Bool
 | .gone=>false
 | _=>true
def Cell.ld:Cell→Bool
 | .ins _ _ _=>false
 | _=>true
inductive Lo where
 | sh (d:Dt) | ol (ds:List Dt) | od (ks:List Key) (ds:List Dt) | ot (ks:List (List Key)) (ds:List Dt) | mh (cs:List Cell)
def Lo.d:Lo→Dt
 | .sh d=>d
 | .ol ds=>.lst ds
 | .od ks ds=>.dic ks ds
 | .ot ks ds=>.dit ks ds
 | .mh _=>.non
def Lo.N8:Lo→Bool
 | .mh _=>true
 | _=>false
def Lo.ld:Lo→Bool
 | .mh cs=>cs.all Cell.ld
 | _=>true
abbrev Env:=List (Option Lo)
def Bq(K:KM):Lo→Option (Option V)→Addr→Prop
 | .sh _,_,_=>False
 | .ol _,s,a=>s=some (some (.ref a))
 | .od _ _,s,a=>s=some (some (.ref a))
 | .ot _ _,s,a=>s=some (some (.ref a))
 | .mh cs,_,a=>∃ (k:Nat) (c:Cell),cs[k]? = some c∧c.live=true∧K.mu.l[k]? = some a
def AH(K:KM)(ρ:Env)(σ:L2.St)(i:Nat)(a:Addr):Prop:=∃ l,ρ[i]? = some (some l)∧Bq K l σ[i]? a
def Av(K:KM)(A0:Ad)(ρ:Env)(σ:L2.St)(lk:List Nat):Ad:=fun a=>A0 a∨∃ i,i∉lk∧AH K ρ σ i a
def D5(K:KM)(H0 H:Hp)(A:Ad):Cell→Addr→Prop
 | .gone,_=>True
 | .lst ds,a=>H0 a=none∧∃ vs,H a=some (.lst vs)∧Ag K H A ds vs
 | .dic ks ds,a=>H0 a=none∧∃ kvs:List (Key × V),H a=some (.dK kvs)∧kvs.map (·.1)=ks∧Ag K H A ds (kvs.map (·.2))
 | .ins C ns ds,a=>H0 a=none∧∃ (dx:Addr) (fs:List (Str × V)),H a=some (.ins C dx fs)∧fs.map (·.1)=ns∧Ag K H A ds (fs.map (·.2))
def WB(K:KM)(cs:List Cell):Prop:=∀ (j k:Nat) (a:Addr) (c c':Cell),cs[j]? = some c→cs[k]? = some c'→c.live=true→c'.live=true→K.mu.l[j]? = some a→K.mu.l[k]? = some a→j=k
def CW(K:KM)(H0 H:Hp)(A:Ad):Lo→Option (Option V)→Prop
 | .sh d,s=>∃ v,s=some (some v)∧Rep K H A d v
 | .ol ds,s=>∃ (a:Addr) (vs:List V),s=some (some (V.ref a))∧H0 a=none∧H a=some (.lst vs)∧Ag K H A ds vs
 | .od ks ds,s=>∃ (a:Addr) (kvs:List (Key × V)),s=some (some (V.ref a))∧H0 a=none∧H a=some (.dK kvs)∧kvs.map (·.1)=ks∧Ag K H A ds (kvs.map (·.2))
 | .ot ks ds,s=>∃ (a:Addr) (kvs:List (List Key × V)),s=some (some (V.ref a))∧H0 a=none∧H a=some (.dT kvs)∧kvs.map (·.1)=ks∧Ag K H A ds (kvs.map (·.2))
 | .mh cs,_=>WB K cs∧cs.length=K.mu.l.length∧∀ (k:Nat) (c:Cell) (a:Addr),cs[k]? = some c→K.mu.l[k]? = some a→D5 K H0 H A c a
structure StOk (K:KM) (H0:Hp) (A0:Ad) (H:Hp) (ρ:Env) (σ:L2.St):Prop where
 same:Same H0 H
 a0:∀ a,A0 a→Mut (H0 a)
 len:σ.length=ρ.length
 lo:∀ (i:Nat) (l:Lo),ρ[i]? = some (some l)→CW K H0 H (Av K A0 ρ σ []) l σ[i]?
 ap:∀ (i j:Nat) (a:Addr),AH K ρ σ i a→AH K ρ σ j a→i=j
 one:∀ (i j:Nat) (cs cs':List Cell),ρ[i]? = some (some (.mh cs))→ρ[j]? = some (some (.mh cs'))→i=j
 nm:K.mu.fix=true→∀ (i:Nat) (cs:List Cell),ρ[i]?≠some (some (.mh cs))
def F9(ρ:Env)(i:Nat):Env:=match ρ[i]? with
 | some (some (.mh _))=>ρ.set i none
 | some (some l)=>ρ.set i (some (.sh l.d))
 | _=>ρ
def frz(lk:List Nat)(ρ:Env):Env:=lk.foldl F9 ρ
@[simp] theorem HR(ρ:Env):frz [] ρ=ρ:=rfl
@[simp] theorem CO(i:Nat)(lk:List Nat)(ρ:Env):frz (i :: lk) ρ=frz lk (F9 ρ i):=rfl
def Hr(ρ:Env)(i:Nat):Bool:=match ρ[i]? with
 | some (some l)=>l.ld
 | _=>true
def AI(d:Dt)(lk:List Nat)(ρ:Env):Env:=if d.pure=true∨(d.nl=true∧lk.all (Hr ρ)=true) then ρ else frz lk ρ
def Mi(ds:List Dt)(lk:List Nat)(ρ:Env):Env:=if Dt.CA ds=true∨(Dt.Sm ds=true∧lk.all (Hr ρ)=true) then ρ else frz lk ρ
section
variable {F:PySem.W.Frag} {m m':Mu} {K:KM} {H0 H0' H H':Hp} {A A' A0:Ad} {ρ:Env} {σ:L2.St} {l:Lo} {sv:Option (Option V)}
theorem Rep.KU(hm:Xt m m')(hk:∀ a o,¬ A a→H a=some o→H' a=some o)(ha:∀ a,A' a→A a∨H a=none){d:Dt}{v:V}(h:Rep ⟨F,m⟩ H A d v):Rep ⟨F,m'⟩ H' A' d v:=
 Rep.gen hm.get (fun a o n e=>hk a o (fun z=>n (.inl z)) e) ha d v (Rep.DL d v h)
theorem Ag.KU(hm:Xt m m')(hk:∀ a o,¬ A a→H a=some o→H' a=some o)(ha:∀ a,A' a→A a∨H a=none){d:List Dt}{v:List V}(h:Ag ⟨F,m⟩ H A d v):Ag ⟨F,m'⟩ H' A' d v:=
 Ag.gen hm.get (fun a o n e=>hk a o (fun z=>n (.inl z)) e) ha d v (Ag.DL d v h)
theorem D5.gen(hm:Xt m m')(hk:∀ a o,¬ A a→H a=some o→H' a=some o)(ha:∀ a,A' a→A a∨H a=none){c:Cell}{a:Addr}(ho:c.live=true→∀ o,H a=some o→H' a=some o)(h0:c.live=true→H0 a=none→H0' a=none)(h:D5 ⟨F,m⟩ H0 H A c a):D5 ⟨F,m'⟩ H0' H' A' c a:=by
 cases c with
 | gone=>exact h
 | lst ds=>obtain ⟨z,vs,e,r⟩:=h; exact ⟨h0 rfl z,vs,ho rfl _ e,r.KU hm hk ha⟩
 | dic ks ds=>obtain ⟨z,vs,e,e2,r⟩:=h; exact ⟨h0 rfl z,vs,ho rfl _ e,e2,r.KU hm hk ha⟩
 | ins C ns ds=>obtain ⟨z,dx,fs,e,e2,r⟩:=h; exact ⟨h0 rfl z,dx,fs,ho rfl _ e,e2,r.KU hm hk ha⟩
theorem CW.gen(hm:Xt m m')(hmh:l.N8=true→m'=m)(hk:∀ a o,¬ A a→H a=some o→H' a=some o)(ha:∀ a,A' a→A a∨H a=none)(ho:∀ a,Bq ⟨F,m⟩ l sv a→∀ o,H a=some o→H' a=some o)(h0:∀ a,Bq ⟨F,m⟩ l sv a→H0 a=none→H0' a=none)
  (h:CW ⟨F,m⟩ H0 H A l sv):CW ⟨F,m'⟩ H0' H' A' l sv:=by
 cases l with
 | sh d=>obtain ⟨v,e,r⟩:=h; exact ⟨v,e,r.KU hm hk ha⟩
 | ol ds=>obtain ⟨a,vs,e,z,e1,r⟩:=h; exact ⟨a,vs,e,h0 a e z,ho a e _ e1,r.KU hm hk ha⟩
 | od ks ds=>obtain ⟨a,vs,e,z,e1,e2,r⟩:=h; exact ⟨a,vs,e,h0 a e z,ho a e _ e1,e2,r.KU hm hk ha⟩
 | ot ks ds=>obtain ⟨a,vs,e,z,e1,e2,r⟩:=h; exact ⟨a,vs,e,h0 a e z,ho a e _ e1,e2,r.KU hm hk ha⟩
 | mh cs=>
  have e:=hmh rfl
  subst e
  obtain ⟨nd,hl,hc⟩:=h
  exact ⟨nd,hl,fun k c a e1 e2=>(hc k c a e1 e2).gen hm hk ha (fun hv=>ho a ⟨k,c,e1,hv,e2⟩) (fun hv=>h0 a ⟨k,c,e1,hv,e2⟩)⟩
theorem CW.own(h:CW K H0 H A l sv){a:Addr}(o:Bq K l sv a):Mut (H a)∧H0 a=none:=by
 cases l with
 | sh d=>exact False.elim o
 | ol ds=>obtain ⟨b,vs,e,z,e1,r⟩:=h; rw [show sv=_ from o] at e; cases e; rw [e1]; exact ⟨trivial,z⟩
 | od ks ds=>obtain ⟨b,vs,e,z,e1,r⟩:=h; rw [show sv=_ from o] at e; cases e; rw [e1]; exact ⟨trivial,z⟩
 | ot ks ds=>obtain ⟨b,vs,e,z,e1,r⟩:=h; rw [show sv=_ from o] at e; cases e; rw [e1]; exact ⟨trivial,z⟩
 | mh cs=>
  obtain ⟨nd,hl,hc⟩:=h
  obtain ⟨k,c,e1,hv,e2⟩:=o
  have q:=hc k c a e1 e2
  cases c with
  | gone=>cases hv
  | lst ds=>obtain ⟨z,vs,e,r⟩:=q; rw [e]; exact ⟨trivial,z⟩
  | dic ks ds=>obtain ⟨z,vs,e,r⟩:=q; rw [e]; exact ⟨trivial,z⟩
  | ins C ns ds=>obtain ⟨z,dx,fs,e,r⟩:=q; rw [e]; exact ⟨trivial,z⟩
theorem CW.RD(h:CW K H0 H A l sv)(hd:l.ld=true){a:Addr}(o:Bq K l sv a):LD (H a):=by
 cases l with
 | sh d=>exact False.elim o
 | ol ds=>obtain ⟨b,vs,e,z,e1,r⟩:=h; rw [show sv=_ from o] at e; cases e; rw [e1]; exact trivial
 | od ks ds=>obtain ⟨b,vs,e,z,e1,r⟩:=h; rw [show sv=_ from o] at e; cases e; rw [e1]; exact trivial
 | ot ks ds=>obtain ⟨b,vs,e,z,e1,r⟩:=h; rw [show sv=_ from o] at e; cases e; rw [e1]; exact trivial
 | mh cs=>
  obtain ⟨nd,hl,hc⟩:=h
  obtain ⟨k,c,e1,hv,e2⟩:=o
  have q:=hc k c a e1 e2
  have hd':cs.all Cell.ld=true:=hd
  have hcd:=List.all_eq_true.mp hd' c (List.mem_of_getElem? e1)
  cases c with
  | gone=>cases hv
  | lst ds=>obtain ⟨z,vs,e,r⟩:=q; rw [e]; exact trivial
  | dic ks ds=>obtain ⟨z,vs,e,r⟩:=q; rw [e]; exact trivial
  | ins C ns ds=>cases hcd
theorem GX{o:Option HO}(h:Mut o):o≠none:=fun z=>by rw [z] at h; exact h
theorem StOk.BW(s:StOk K H0 A0 H ρ σ){i:Nat}{a:Addr}(h:AH K ρ σ i a):(∃ o,H a=some o)∧H0 a=none:=by
 obtain ⟨l,e,h⟩:=h
 obtain ⟨q,z⟩:=(s.lo i l e).own h
 refine ⟨?_,z⟩
 cases e2:H a with
 | none=>exact absurd e2 (GX q)
 | some o=>exact ⟨o,rfl⟩
theorem StOk.Ez(s:StOk K H0 A0 H ρ σ){lk:List Nat}{a:Addr}(h:Av K A0 ρ σ lk a):Mut (H a):=by
 rcases h with h | ⟨i,_,h⟩
 ·have q:=s.a0 a h
  cases e:H0 a with
  | none=>rw [e] at q; exact False.elim q
  | some o=>
   rw [s.same a o e]
   rw [e] at q
   exact q
 ·obtain ⟨l,e,h⟩:=h
  exact ((s.lo i l e).own h).1
theorem StOk.Hq(s:StOk K H0 A0 H ρ σ){lk:List Nat}{a:Addr}(h:Av K A0 ρ σ lk a):H a≠none:=GX (s.Ez h)
theorem StOk.MJ(s:StOk K H0 A0 H ρ σ){lk:List Nat}{a:Addr}(h:H a=none):¬ Av K A0 ρ σ lk a:=fun z=>s.Hq z h
theorem Av.sub{lk lk':List Nat}(h:∀ i,i∈lk→i∈lk'){a:Addr}(z:Av K A0 ρ σ lk' a):Av K A0 ρ σ lk a:=by
 rcases z with z | ⟨i,n,z⟩
 ·exact .inl z
 ·exact .inr ⟨i,fun q=>n (h i q),z⟩
theorem Av.nil{lk:List Nat}{a:Addr}(z:Av K A0 ρ σ lk a):Av K A0 ρ σ [] a:=Av.sub (lk:=[]) (lk':=lk) (fun _ q=>nomatch q) z
theorem Av.base{lk:List Nat}{a:Addr}(z:A0 a):Av K A0 ρ σ lk a:=.inl z
theorem StOk.grow(s:StOk K H0 A0 H ρ σ)(hs:Same H H'):StOk K H0 A0 H' ρ σ:=
 ⟨s.same.trans hs,s.a0,s.len,fun i l e=>CW.gen (F:=K.K) (m:=K.mu) (m':=K.mu) (Xt.refl _) (fun _=>rfl) (fun a o _ q=>hs a o q) (fun a z=>.inl z) (fun a _ o q=>hs a o q) (fun a _ z=>z) (s.lo i l e),s.ap,s.one,s.nm⟩
theorem StOk.val(s:StOk K H0 A0 H ρ σ){i:Nat}{l:Lo}(e:ρ[i]? = some (some l))(hn:l.N8=false):∃ v,σ[i]? = some (some v)∧Rep K H (Av K A0 ρ σ [i]) l.d v:=by
 have h:=s.lo i l e
 have na:∀ a,Bq K l σ[i]? a→H0 a=none→¬ Av K A0 ρ σ [i] a:=fun a ho h0 z=>by
  rcases z with z | ⟨j,n,z⟩
  ·have q:=s.a0 a z
   rw [h0] at q
   exact q
  ·have q:=s.ap i j a ⟨l,e,ho⟩ z
   subst q
   exact n (List.mem_singleton.mpr rfl)
 cases l with
 | sh d=>
  obtain ⟨v,e1,r⟩:=h
  exact ⟨v,e1,r.Bv fun _ z=>z.nil⟩
 | ol ds=>
  obtain ⟨a,vs,e1,h0,h1,r⟩:=h
  refine ⟨_,e1,?_⟩
  show Rep K H _ (.lst ds) _
  unfold Rep
  exact ⟨a,vs,rfl,na a e1 h0,h1,r.Bv fun _ z=>z.nil⟩
 | od ks ds=>
  obtain ⟨a,kvs,e1,h0,h1,h2,r⟩:=h
  refine ⟨_,e1,?_⟩
  show Rep K H _ (.dic ks ds) _
  unfold Rep
  exact ⟨a,kvs,rfl,na a e1 h0,.inl h1,h2,r.Bv fun _ z=>z.nil⟩
 | ot ks ds=>
  obtain ⟨a,kvs,e1,h0,h1,h2,r⟩:=h
  refine ⟨_,e1,?_⟩
  show Rep K H _ (.dit ks ds) _
  unfold Rep
  exact ⟨a,kvs,rfl,na a e1 h0,.inl h1,h2,r.Bv fun _ z=>z.nil⟩
 | mh cs=>cases hn
theorem Bc{α:Type}{l:List α}{i:Nat}{x:α}(h:l[i]? = some x):l.set i x=l:=by
 apply List.ext_getElem?
 intro j
 by_cases e:i=j
 ·subst e
  rw [List.getElem?_set_self (List.getElem?_eq_some_iff.mp h).1,h]
 ·rw [List.getElem?_set_ne e]
theorem Bq.ext{m m':Mu}(hmh:l.N8=true→m'=m){a:Addr}(h:Bq ⟨F,m'⟩ l sv a):Bq ⟨F,m⟩ l sv a:=by
 cases l with
 | mh cs=>have e:=hmh rfl; subst e; exact h
 | _=>exact h
theorem StOk.JH(s:StOk ⟨F,m⟩ H0 A0 H ρ σ)(i:Nat)(l':Option Lo)(s':Option V)(hm:Xt m m')(hx:m'=m∨∃ cs,ρ[i]? = some (some (.mh cs)))(same:Same H0 H')(keep:∀ a o,H a=some o→¬ AH ⟨F,m⟩ ρ σ i a→H' a=some o)
  (own:∀ l,l'=some l→∀ a,Bq ⟨F,m'⟩ l (some s') a→AH ⟨F,m⟩ ρ σ i a∨H a=none)
  (one:∀ cs,l'=some (.mh cs)→∃ cs,ρ[i]? = some (some (.mh cs)))
  (ok:∀ l,l'=some l→∀ A':Ad,(∀ a,A' a→Av ⟨F,m⟩ A0 ρ σ [i] a∨Bq ⟨F,m'⟩ l (some s') a)→CW ⟨F,m'⟩ H0 H' A' l (some s')):
  StOk ⟨F,m'⟩ H0 A0 H' (ρ.set i l') (σ.set i s'):=by
 have cs':∀ j l,(ρ.set i l')[j]? = some (some l)→(j≠i∧ρ[j]? = some (some l)∧(σ.set i s')[j]? = σ[j]?)∨(j=i∧l'=some l∧(σ.set i s')[j]? = some s'):=fun j l e=>by
  by_cases h:i=j
  ·subst h
   have hl:i < ρ.length:=by
    have:=(List.getElem?_eq_some_iff.mp e).1
    rw [List.length_set] at this
    exact this
   rw [List.getElem?_set_self hl] at e
   exact .inr ⟨rfl,Option.some.inj e,List.getElem?_set_self (by rw [s.len]; exact hl)⟩
  ·rw [List.getElem?_set_ne h] at e
   exact .inl ⟨fun z=>h z.symm,e,List.getElem?_set_ne h⟩
 have mhj:∀ j l,j≠i→ρ[j]? = some (some l)→l.N8=true→m'=m:=fun j l n e q=>by
  rcases hx with hx | ⟨cs,hx⟩
  ·exact hx
  ·cases l with
   | mh cs'=>exact absurd (s.one j i _ _ e hx) n
   | _=>cases q
 have oj:∀ j a,AH ⟨F,m'⟩ (ρ.set i l') (σ.set i s') j a→(j≠i∧AH ⟨F,m⟩ ρ σ j a)∨(j=i∧∃ l,l'=some l∧Bq ⟨F,m'⟩ l (some s') a):=fun j a ⟨l,e,h⟩=>by
  rcases cs' j l e with ⟨n,e1,e2⟩ | ⟨n,e1,e2⟩
  ·rw [e2] at h
   exact .inl ⟨n,l,e1,h.ext (mhj j l n e1)⟩
  ·rw [e2] at h
   exact .inr ⟨n,l,e1,h⟩
 have av:∀ a,Av ⟨F,m'⟩ A0 (ρ.set i l') (σ.set i s') [] a→Av ⟨F,m⟩ A0 ρ σ [i] a∨∃ l,l'=some l∧Bq ⟨F,m'⟩ l (some s') a:=fun a z=>by
  rcases z with z | ⟨j,_,z⟩
  ·exact .inl (.inl z)
  ·rcases oj j a z with ⟨n,z⟩ | ⟨_,z⟩
   ·exact .inl (.inr ⟨j,fun q=>n (List.mem_singleton.mp q),z⟩)
   ·exact .inr z
 have ow:∀ a,(∃ l,l'=some l∧Bq ⟨F,m'⟩ l (some s') a)→AH ⟨F,m⟩ ρ σ i a∨H a=none:=fun a ⟨l,e,h⟩=>own l e a h
 have mi:∀ (j:Nat) (c:List Cell),(ρ.set i l')[j]? = some (some (.mh c))→∃ c:List Cell,ρ[j]? = some (some (.mh c)):=fun j c e=>by
  rcases cs' j _ e with ⟨n,e1,e2⟩ | ⟨rfl,e1,e2⟩
  ·exact ⟨_,e1⟩
  ·exact one c e1
 refine ⟨same,s.a0,by rw [List.length_set,List.length_set]; exact s.len,fun j l e=>?_,fun j k a h1 h2=>?_,fun j k c1 c2 h1 h2=>?_,fun hf j c e=>?_⟩
 ·rcases cs' j l e with ⟨n,e1,e2⟩ | ⟨rfl,e1,e2⟩
  ·rw [e2]
   refine CW.gen hm (mhj j l n e1) (fun a o na q=>keep a o q fun z=>na (.inr ⟨i,(fun q=>nomatch q),z⟩)) (fun a z=>?_) (fun a ho o q=>keep a o q fun z=>n (s.ap j i a ⟨l,e1,ho⟩ z)) (fun a _ z=>z) (s.lo j l e1)
   rcases av a z with z | z
   ·exact .inl z.nil
   ·exact (ow a z).imp (fun z=>.inr ⟨i,(fun q=>nomatch q),z⟩) id
  ·rw [e2]
   exact ok l e1 _ fun a z=>(av a z).imp id fun ⟨l2,e3,z⟩=>by rw [e1] at e3; cases e3; exact z
 ·rcases oj j a h1 with ⟨n1,z1⟩ | ⟨n1,z1⟩
  ·rcases oj k a h2 with ⟨n2,z2⟩ | ⟨n2,z2⟩
   ·exact s.ap j k a z1 z2
   ·rcases ow a z2 with z2 | z2
    ·exact absurd (s.ap j i a z1 z2) n1
    ·obtain ⟨⟨o,q⟩,_⟩:=s.BW z1
     rw [z2] at q
     cases q
  ·rcases oj k a h2 with ⟨n2,z2⟩ | ⟨n2,z2⟩
   ·rcases ow a z1 with z1 | z1
    ·exact absurd (s.ap k i a z2 z1) n2
    ·obtain ⟨⟨o,q⟩,_⟩:=s.BW z2
     rw [z1] at q
     cases q
   ·rw [n1,n2]
 ·obtain ⟨d1,q1⟩:=mi j c1 h1
  obtain ⟨d2,q2⟩:=mi k c2 h2
  exact s.one j k _ _ q1 q2
 ·obtain ⟨d1,q1⟩:=mi j c e
  exact s.nm (hm.fx.symm.trans hf) j _ q1
theorem StOk.put(s:StOk K H0 A0 H ρ σ){i:Nat}{d:Dt}{v:V}(r:Rep K H (Av K A0 ρ σ []) d v):StOk K H0 A0 H (ρ.set i (some (.sh d))) (σ.set i (some v)):=by
 refine StOk.JH (F:=K.K) (m:=K.mu) s i _ _ (Xt.refl _) (.inl rfl) s.same (fun a o e _=>e) (fun l e a h=>?_) (fun cs e=>by cases e) fun l e A' ha=>?_
 ·cases e; exact False.elim h
 ·cases e
  exact ⟨v,rfl,r.Bv fun a z=>(ha a z).elim (fun z=>z.nil) fun z=>False.elim z⟩
theorem StOk.gone(s:StOk K H0 A0 H ρ σ)(i:Nat):StOk K H0 A0 H (ρ.set i none) (σ.set i none):=
 StOk.JH (F:=K.K) (m:=K.mu) s i _ _ (Xt.refl _) (.inl rfl) s.same (fun a o e _=>e) (fun l e=>by cases e) (fun cs e=>by cases e) fun l e=>by cases e
theorem StOk.ZE{i:Nat}{d:Dt}{v:V}{lk:List Nat}{a:Addr}(z:Av K A0 (ρ.set i (some (.sh d))) (σ.set i (some v)) lk a):Av K A0 ρ σ lk a:=by
 rcases z with z | ⟨j,n,l,e,h⟩
 ·exact .inl z
 ·refine .inr ⟨j,n,?_⟩
  by_cases hj:i=j
  ·subst hj
   by_cases hl:i < ρ.length
   ·rw [List.getElem?_set_self hl] at e
    cases e
    exact False.elim h
   ·rw [List.getElem?_eq_none (by rw [List.length_set]; omega)] at e
    cases e
  ·rw [List.getElem?_set_ne hj] at e h
   exact ⟨l,e,h⟩
theorem StOk.fz1(s:StOk K H0 A0 H ρ σ)(i:Nat):StOk K H0 A0 H (F9 ρ i) σ∧∀ lk a,Av K A0 (FD.F9 ρ i) σ lk a→Av K A0 ρ σ (i :: lk) a:=by
 unfold FD.F9
 have key:∀ (l':Option Lo),(∀ l,l'=some l→l.N8=false∧∀ a,¬ Bq K l σ[i]? a)→∀ lk a,Av K A0 (ρ.set i l') σ lk a→Av K A0 ρ σ (i :: lk) a:=by
  rintro l' hl' lk a (z | ⟨j,n,l,e,ho⟩)
  ·exact .inl z
  ·by_cases h:i=j
   ·subst h
    have hl:i < ρ.length:=by
     have:=(List.getElem?_eq_some_iff.mp e).1
     rw [List.length_set] at this
     exact this
    rw [List.getElem?_set_self hl] at e
    exact absurd ho ((hl' l (Option.some.inj e)).2 a)
   ·rw [List.getElem?_set_ne h] at e
    exact .inr ⟨j,fun q=>(List.mem_cons.mp q).elim (fun z=>h z.symm) n,l,e,ho⟩
 have hσ:∀ v,σ[i]? = some v→σ.set i v=σ:=fun v e=>Bc e
 split
 ·rename_i cs e
  refine ⟨?_,key none (fun l e=>by cases e)⟩
  have hi:i < σ.length:=by rw [s.len]; exact (List.getElem?_eq_some_iff.mp e).1
  have q:=StOk.JH (F:=K.K) (m:=K.mu) (H':=H) s i none σ[i] (Xt.refl _) (.inl rfl) s.same (fun a o e _=>e) (fun l e=>by cases e) (fun cs e=>by cases e) fun l e=>by cases e
  rw [hσ _ (List.getElem?_eq_getElem hi)] at q
  exact q
 ·rename_i l hn e
  have hmh:l.N8=false:=by
   cases l with
   | mh cs=>exact (hn cs rfl).elim
   | _=>rfl
  obtain ⟨v,e1,r⟩:=s.val e hmh
  refine ⟨?_,key _ (fun l e=>by cases e; exact ⟨rfl,fun a z=>z⟩)⟩
  have q:=StOk.JH (F:=K.K) (m:=K.mu) (H':=H) s i (some (.sh l.d)) (some v) (Xt.refl _) (.inl rfl) s.same (fun a o e _=>e) (fun l e a h=>by cases e; exact False.elim h) (fun cs e=>by cases e) fun l2 e2 A' ha=>by
   cases e2
   exact ⟨v,rfl,r.Bv fun a z=>(ha a z).elim id fun z=>False.elim z⟩
  rw [hσ _ e1] at q
  exact q
 ·rename_i hn1 hn2
  refine ⟨s,fun lk a z=>?_⟩
  rcases z with z | ⟨j,n,l,e,ho⟩
  ·exact .inl z
  ·refine .inr ⟨j,fun q=>(List.mem_cons.mp q).elim (fun h=>?_) n,l,e,ho⟩
   subst h
   exact hn2 l e
theorem StOk.fz(s:StOk K H0 A0 H ρ σ)(lk:List Nat):StOk K H0 A0 H (frz lk ρ) σ∧∀ mk a,Av K A0 (FD.frz lk ρ) σ mk a→Av K A0 ρ σ (lk ++ mk) a:=by
 induction lk generalizing ρ with
 | nil=>exact ⟨s,fun mk a z=>z⟩
 | cons i lk ih=>
  obtain ⟨s1,h1⟩:=s.fz1 i
  obtain ⟨s2,h2⟩:=ih s1
  exact ⟨s2,fun mk a z=>h1 _ a (h2 mk a z)⟩
theorem P5(ρ:Env)(i:Nat):(FD.F9 ρ i).length=ρ.length:=by
 unfold FD.F9
 split
 ·rw [List.length_set]
 ·rw [List.length_set]
 ·rfl
theorem Lp(lk:List Nat)(ρ:Env):(FD.frz lk ρ).length=ρ.length:=by
 induction lk generalizing ρ with
 | nil=>rfl
 | cons i lk ih=>rw [CO,ih,P5]
theorem StOk.O7(s:StOk K H0 A0 H ρ σ){d:Dt}{v:V}{lk:List Nat}(r:Rep K H (Av K A0 ρ σ lk) d v):StOk K H0 A0 H (AI d lk ρ) σ∧Rep K H (Av K A0 (AI d lk ρ) σ []) d v:=by
 unfold AI
 split
 ·rename_i hd
  refine ⟨s,?_⟩
  rcases hd with hd | ⟨hd,hl⟩
  ·exact Rep.pure (fun a z=>s.Ez z) d v hd r
  ·refine Rep.nl (fun a z=>?_) d v hd r
   rcases z with z | ⟨i,n,l,e,ho⟩
   ·exact .inl (.inl z)
   ·by_cases hi:i∈lk
    ·have q:=List.all_eq_true.mp hl i hi
     unfold Hr at q
     rw [e] at q
     exact .inr ((s.lo i l e).RD q ho)
    ·exact .inl (.inr ⟨i,hi,l,e,ho⟩)
 ·obtain ⟨s1,h1⟩:=s.fz lk
  exact ⟨s1,r.Bv fun a z=>by have q:=h1 [] a z; rwa [List.append_nil] at q⟩
theorem StOk.fzL0(s:StOk K H0 A0 H ρ σ){ds:List Dt}{vs:List V}{p:Addr}{lk:List Nat}(hs:Same H H')(hp:H p=none)(hp':H' p=some (.lst vs))(r:Ag K H' (fun a=>Av K A0 ρ σ lk a∨a=p) ds vs):StOk K H0 A0 H (Mi ds lk ρ) σ∧Ag K H' (fun a=>Av K A0 (Mi ds lk ρ) σ [] a∨a=p) ds vs:=by
 unfold Mi
 split
 ·rename_i hd
  refine ⟨s,?_⟩
  rcases hd with hd | ⟨hd,hl⟩
  ·refine Ag.pure (fun a z=>?_) ds vs hd r
   rcases z with z | z
   ·exact (s.grow hs).Ez z
   ·rw [z,hp']; exact trivial
  ·refine Ag.nl (fun a z=>?_) ds vs hd r
   rcases z with (z | ⟨i,n,l,e,ho⟩) | z
   ·exact .inl (.inl (.inl z))
   ·by_cases hi:i∈lk
    ·have q:=List.all_eq_true.mp hl i hi
     unfold Hr at q
     rw [e] at q
     exact .inr (((s.grow hs).lo i l e).RD q ho)
    ·exact .inl (.inl (.inr ⟨i,hi,l,e,ho⟩))
   ·exact .inl (.inr z)
 ·obtain ⟨s1,h1⟩:=s.fz lk
  exact ⟨s1,r.Bv fun a z=>z.imp (fun z=>by have q:=h1 [] a z; rwa [List.append_nil] at q) id⟩
theorem StOk.give(s:StOk K H0 A0 H ρ σ){i:Nat}{d:Dt}{v:V}{lk:List Nat}(hs:Same H H')(r:Rep K H' (Av K A0 ρ σ lk) d v):StOk K H0 A0 H' ((AI d lk ρ).set i (some (.sh d))) (σ.set i (some v)):=by
 obtain ⟨s1,r1⟩:=(s.grow hs).O7 r
 exact s1.put r1
theorem StOk.Xr(s:StOk K H0 A0 H ρ σ){i:Nat}{ds:List Dt}{vs:List V}{p:Addr}{lk:List Nat}(hs:Same H H')(hp:H p=none)(hp':H' p=some (.lst vs))(r:Ag K H' (fun a=>Av K A0 ρ σ lk a∨a=p) ds vs):
  StOk K H0 A0 H' ((Mi ds lk ρ).set i (some (.ol ds))) (σ.set i (some (.ref p))):=by
 obtain ⟨s1,r1⟩:=s.fzL0 hs hp hp' r
 refine StOk.JH (F:=K.K) (m:=K.mu) s1 i _ _ (Xt.refl _) (.inl rfl) (s.same.trans hs) (fun a o e _=>hs a o e) (fun l e a h=>?_) (fun cs e=>by cases e) fun l e A' ha=>?_
 ·cases e
  cases (show some (some (V.ref p))=some (some (V.ref a)) from h)
  exact .inr hp
 ·cases e
  refine ⟨p,vs,rfl,s.same.free hp,hp',r1.Bv fun a z=>?_⟩
  rcases ha a z with z | z
  ·exact .inl z.nil
  ·cases (show some (some (V.ref p))=some (some (V.ref a)) from z)
   exact .inr rfl
theorem StOk.Uv(s:StOk K H0 A0 H ρ σ){i:Nat}{ks:List Key}{ds:List Dt}{kvs:List (Key × V)}{p:Addr}{lk:List Nat}(hs:Same H H')(hp:H p=none)(hp':H' p=some (.dK kvs))(hk:kvs.map (·.1)=ks)(r:Ag K H' (fun a=>Av K A0 ρ σ lk a∨a=p) ds (kvs.map (·.2))):
  StOk K H0 A0 H' ((frz lk ρ).set i (some (.od ks ds))) (σ.set i (some (.ref p))):=by
 obtain ⟨s1,h1⟩:=s.fz lk
 refine StOk.JH (F:=K.K) (m:=K.mu) s1 i _ _ (Xt.refl _) (.inl rfl) (s.same.trans hs) (fun a o e _=>hs a o e) (fun l e a h=>?_) (fun cs e=>by cases e) fun l e A' ha=>?_
 ·cases e
  cases (show some (some (V.ref p))=some (some (V.ref a)) from h)
  exact .inr hp
 ·cases e
  refine ⟨p,kvs,rfl,s.same.free hp,hp',hk,r.Bv fun a z=>?_⟩
  rcases ha a z with z | z
  ·have q:=h1 [i] a z
   exact .inl (Av.sub (fun j hj=>List.mem_append_left _ hj) q)
  ·cases (show some (some (V.ref p))=some (some (V.ref a)) from z)
   exact .inr rfl
theorem StOk.NC(s:StOk K H0 A0 H ρ σ){i:Nat}{a:Addr}{u:HO}(ho:AH K ρ σ i a):∀ b o,H b=some o→¬ AH K ρ σ i b→upd H a u b=some o:=fun b o e n=>by
 rw [upd_ne (fun z=>by subst z; exact n ho)]
 exact e
theorem StOk.Ny(s:StOk K H0 A0 H ρ σ){a:Addr}{u:HO}(h0:H0 a=none):Same H0 (upd H a u):=fun b o e=>by
 rw [upd_ne (ne_of_none e h0)]
 exact s.same b o e
theorem Av.keep{a:Addr}{u:HO}{i:Nat}(ho:AH K ρ σ i a):∀ b o,¬ Av K A0 ρ σ [] b→H b=some o→upd H a u b=some o:=fun b o n q=>by
 rw [upd_ne (fun z=>by subst z; exact n (.inr ⟨i,(fun q=>nomatch q),ho⟩))]
 exact q
theorem StOk.Y1(s:StOk K H0 A0 H ρ σ){i:Nat}{ds es:List Dt}{a:Addr}{us:List V}(e:ρ[i]? = some (some (.ol ds)))(hσ:σ[i]? = some (some (.ref a)))(r:Ag K H (Av K A0 ρ σ []) es us):
  StOk K H0 A0 (upd H a (.lst us)) (ρ.set i (some (.ol es))) σ:=by
 have ho:AH K ρ σ i a:=⟨_,e,hσ⟩
 have h0:=(s.BW ho).2
 have q:=StOk.JH (F:=K.K) (m:=K.mu) (H':=upd H a (.lst us)) s i (some (.ol es)) (some (.ref a)) (Xt.refl _) (.inl rfl) (s.Ny h0) (s.NC ho) (fun l e b h=>by cases e; cases (show some (some (V.ref a))=some (some (V.ref b)) from h); exact .inl ho) (fun cs e=>by cases e) fun l e2 A' ha=>by
  cases e2
  refine ⟨a,us,rfl,h0,upd_same,Ag.mono (Av.keep ho) (fun b z=>?_) _ _ r⟩
  rcases ha b z with z | z
  ·exact z.nil
  ·cases (show some (some (V.ref a))=some (some (V.ref b)) from z)
   exact .inr ⟨i,(fun q=>nomatch q),ho⟩
 rw [Bc hσ] at q
 exact q
theorem StOk.Z6(s:StOk K H0 A0 H ρ σ){i:Nat}{ks ks':List Key}{ds es:List Dt}{a:Addr}{kvs:List (Key × V)}(e:ρ[i]? = some (some (.od ks ds)))(hσ:σ[i]? = some (some (.ref a)))(hk:kvs.map (·.1)=ks')(r:Ag K H (Av K A0 ρ σ []) es (kvs.map (·.2))):
  StOk K H0 A0 (upd H a (.dK kvs)) (ρ.set i (some (.od ks' es))) σ:=by
 have ho:AH K ρ σ i a:=⟨_,e,hσ⟩
 have h0:=(s.BW ho).2
 have q:=StOk.JH (F:=K.K) (m:=K.mu) (H':=upd H a (.dK kvs)) s i (some (.od ks' es)) (some (.ref a)) (Xt.refl _) (.inl rfl) (s.Ny h0) (s.NC ho) (fun l e b h=>by cases e; cases (show some (some (V.ref a))=some (some (V.ref b)) from h); exact .inl ho) (fun cs e=>by cases e) fun l e2 A' ha=>by
  cases e2
  refine ⟨a,kvs,rfl,h0,upd_same,hk,Ag.mono (Av.keep ho) (fun b z=>?_) _ _ r⟩
  rcases ha b z with z | z
  ·exact z.nil
  ·cases (show some (some (V.ref a))=some (some (V.ref b)) from z)
   exact .inr ⟨i,(fun q=>nomatch q),ho⟩
 rw [Bc hσ] at q
 exact q
theorem StOk.Z5(s:StOk K H0 A0 H ρ σ){i k:Nat}{cs:List Cell}{c c':Cell}{a:Addr}{u:HO}(e:ρ[i]? = some (some (.mh cs)))(hc:cs[k]? = some c)(hl:c.live=true)(ha:K.mu.l[k]? = some a)(hl':c'.live=true)
  (ok:∀ A',(∀ b,A' b→Av K A0 ρ σ [] b)→D5 K H0 (upd H a u) A' c' a):StOk K H0 A0 (upd H a u) (ρ.set i (some (.mh (cs.set k c')))) σ:=by
 have ho:AH K ρ σ i a:=⟨_,e,k,c,hc,hl,ha⟩
 have h0:=(s.BW ho).2
 have hi:i < σ.length:=by rw [s.len]; exact (List.getElem?_eq_some_iff.mp e).1
 have hk:k < cs.length:=(List.getElem?_eq_some_iff.mp hc).1
 have own:∀ b,Bq K (.mh (cs.set k c')) (some σ[i]) b→AH K ρ σ i b:=fun b ⟨j,c2,e1,hv,e2⟩=>by
  by_cases hj:k=j
  ·subst hj
   rw [ha] at e2
   cases e2
   exact ho
  ·rw [List.getElem?_set_ne hj] at e1
   exact ⟨_,e,j,c2,e1,hv,e2⟩
 have q:=StOk.JH (F:=K.K) (m:=K.mu) (H':=upd H a u) s i (some (.mh (cs.set k c'))) σ[i] (Xt.refl _) (.inl rfl) (s.Ny h0) (s.NC ho) (fun l e b h=>by cases e; exact .inl (own b h)) (fun _ _=>⟨cs,e⟩) fun l e2 A' hA=>by
  cases e2
  obtain ⟨nd,hlen,hcs⟩:=s.lo i _ e
  have hA':∀ b,A' b→Av K A0 ρ σ [] b:=fun b z=>(hA b z).elim (fun z=>z.nil) fun z=>.inr ⟨i,(fun q=>nomatch q),own b z⟩
  have sp:∀ (j:Nat) (c2:Cell),(cs.set k c')[j]? = some c2→c2.live=true→∃ c3:Cell,cs[j]? = some c3∧c3.live=true:=fun j c2 e1 hv=>by
   by_cases hj:k=j
   ·subst hj
    exact ⟨c,hc,hl⟩
   ·rw [List.getElem?_set_ne hj] at e1
    exact ⟨c2,e1,hv⟩
  refine ⟨fun j1 j2 b c1 c2 e1 e2 v1 v2 m1 m2=>?_,by rw [List.length_set]; exact hlen,fun j c2 b e1 e3=>?_⟩
  ·obtain ⟨d1,f1,w1⟩:=sp j1 c1 e1 v1
   obtain ⟨d2,f2,w2⟩:=sp j2 c2 e2 v2
   exact nd j1 j2 b d1 d2 f1 f2 w1 w2 m1 m2
  by_cases hj:k=j
  ·subst hj
   rw [List.getElem?_set_self hk] at e1
   cases e1
   rw [ha] at e3
   cases e3
   exact ok A' hA'
  ·rw [List.getElem?_set_ne hj] at e1
   refine (hcs j c2 b e1 e3).gen (Xt.refl _) (Av.keep ho) (fun b z=>.inl (hA' b z)) (fun hv o q=>?_) (fun _ z=>z)
   rw [upd_ne (fun z=>by subst z; exact hj (nd k j _ c c2 hc e1 hl hv ha e3))]
   exact q
 rw [Bc (List.getElem?_eq_getElem hi)] at q
 exact q
def Mu.push(m:Mu)(p:Addr):Mu:=⟨m.l ++ [p],m.fix⟩
theorem StOk.alloc(s:StOk ⟨F,m⟩ H0 A0 H ρ σ){i:Nat}{cs:List Cell}{c:Cell}{p:Addr}(e:ρ[i]? = some (some (.mh cs)))(hs:Same H H')(hp:H p=none)
  (ok:∀ A',(∀ b,A' b→Av ⟨F,m⟩ A0 ρ σ [] b∨b=p)→D5 ⟨F,m.push p⟩ H0 H' A' c p):StOk ⟨F,m.push p⟩ H0 A0 H' (ρ.set i (some (.mh (cs ++ [c])))) σ:=by
 have hi:i < σ.length:=by rw [s.len]; exact (List.getElem?_eq_some_iff.mp e).1
 have hf:m.fix=false:=by
  cases h:m.fix with
  | false=>rfl
  | true=>exact absurd e (s.nm h i cs)
 have hm:Xt m (m.push p):=⟨fun k a h=>by show (m.l ++ [p])[k]? = _; rw [List.getElem?_append_left (List.getElem?_eq_some_iff.mp h).1]; exact h,rfl,fun z=>by rw [hf] at z; cases z⟩
 obtain ⟨nd,hlen,hcs⟩:=s.lo i _ e
 simp only at hlen
 have split:∀ (j:Nat) (c2:Cell),(cs ++ [c])[j]? = some c2→cs[j]? = some c2∨(j=cs.length∧c2=c):=fun j c2 h=>by
  by_cases hj:j < cs.length
  ·rw [List.getElem?_append_left hj] at h
   exact .inl h
  ·rw [List.getElem?_append_right (by omega)] at h
   cases hd:j - cs.length with
   | zero=>
    rw [hd] at h
    cases h
    exact .inr ⟨by omega,rfl⟩
   | succ n=>rw [hd] at h; cases h
 have at':∀ (j:Nat) (b:Addr),(m.push p).l[j]? = some b→(j < m.l.length∧m.l[j]? = some b)∨(j=m.l.length∧b=p):=fun j b h=>by
  have h:(m.l ++ [p])[j]? = some b:=h
  by_cases hj:j < m.l.length
  ·rw [List.getElem?_append_left hj] at h
   exact .inl ⟨hj,h⟩
  ·rw [List.getElem?_append_right (by omega)] at h
   cases hd:j - m.l.length with
   | zero=>
    rw [hd] at h
    cases h
    exact .inr ⟨by omega,rfl⟩
   | succ n=>rw [hd] at h; cases h
 have own:∀ b,Bq ⟨F,m.push p⟩ (.mh (cs ++ [c])) (some σ[i]) b→AH ⟨F,m⟩ ρ σ i b∨b=p:=fun b ⟨j,c2,e1,hv,e2⟩=>by
  rcases split j c2 e1 with h | ⟨h,_⟩
  ·rcases at' j b e2 with ⟨_,h2⟩ | ⟨h2,_⟩
   ·exact .inl ⟨_,e,j,c2,h,hv,h2⟩
   ·have:=(List.getElem?_eq_some_iff.mp h).1
    omega
  ·rcases at' j b e2 with ⟨h2,_⟩ | ⟨_,h2⟩
   ·omega
   ·exact .inr h2
 have q:=StOk.JH (F:=F) (m:=m) (m':=m.push p) (H':=H') s i (some (.mh (cs ++ [c]))) σ[i] hm (.inr ⟨cs,e⟩) (s.same.trans hs) (fun a o q _=>hs a o q) (fun l e b h=>by cases e; exact (own b h).imp id fun z=>by rw [z]; exact hp) (fun _ _=>⟨cs,e⟩) fun l e2 A' hA=>by
  cases e2
  have hA':∀ b,A' b→Av ⟨F,m⟩ A0 ρ σ [] b∨b=p:=fun b z=>(hA b z).elim (fun z=>.inl z.nil) fun z=>(own b z).imp (fun z=>.inr ⟨i,(fun q=>nomatch q),z⟩) id
  have lv:∀ (j:Nat) (c2:Cell) (b:Addr),cs[j]? = some c2→c2.live=true→m.l[j]? = some b→b≠p:=fun j c2 b h1 h2 h3 z=>by
   obtain ⟨⟨o,q⟩,_⟩:=s.BW (i:=i) (a:=b) ⟨_,e,j,c2,h1,h2,h3⟩
   rw [z,hp] at q
   cases q
  refine ⟨fun j1 j2 b c1 c2 e1 e2 v1 v2 m1 m2=>?_,by show (cs ++ [c]).length=(m.l ++ [p]).length; simp [hlen],fun j c2 b e1 e3=>?_⟩
  ·rcases split j1 c1 e1 with h1 | ⟨h1,_⟩
   ·rcases at' j1 b m1 with ⟨_,k1⟩ | ⟨k1,_⟩
    ·rcases split j2 c2 e2 with h2 | ⟨h2,_⟩
     ·rcases at' j2 b m2 with ⟨_,k2⟩ | ⟨k2,_⟩
      ·exact nd j1 j2 b c1 c2 h1 h2 v1 v2 k1 k2
      ·have:=(List.getElem?_eq_some_iff.mp h2).1
       omega
     ·rcases at' j2 b m2 with ⟨k2,_⟩ | ⟨_,k2⟩
      ·omega
      ·exact absurd k2 (lv j1 c1 b h1 v1 k1)
    ·have:=(List.getElem?_eq_some_iff.mp h1).1
     omega
   ·rcases at' j1 b m1 with ⟨k1,_⟩ | ⟨_,k1⟩
    ·omega
    ·rcases split j2 c2 e2 with h2 | ⟨h2,_⟩
     ·rcases at' j2 b m2 with ⟨_,k2⟩ | ⟨k2,_⟩
      ·exact absurd k1 (lv j2 c2 b h2 v2 k2)
      ·have:=(List.getElem?_eq_some_iff.mp h2).1
       omega
     ·rw [h1,h2]
  ·rcases split j c2 e1 with h | ⟨h,rfl⟩
   ·rcases at' j b e3 with ⟨_,h2⟩ | ⟨h2,_⟩
    ·exact (hcs j c2 b h h2).gen hm (fun a o _ q=>hs a o q) (fun b z=>(hA' b z).imp id fun z=>by rw [z]; exact hp) (fun _ o q=>hs _ o q) (fun _ z=>z)
    ·have:=(List.getElem?_eq_some_iff.mp h).1
     omega
   ·rcases at' j b e3 with ⟨h2,_⟩ | ⟨_,rfl⟩
    ·omega
    ·exact ok A' hA'
 rw [Bc (List.getElem?_eq_getElem hi)] at q
 exact q
end
end FD
namespace FD
open PySem L2
def TN:Ad:=fun _=>False
def Kb(K:PySem.W.Frag)(H:Hp)(x:Exn)(c:Value)(od:Option Addr):Prop:=
 c=.ref x.cls∧Dt.CA (x.fs.map (·.2))=true∧match od with
  | none=>x.fs=[]
  | some d=>∃ fs:List (Str × V),H d=some (.xd fs)∧fs.map (·.1)=x.fs.map (·.1)∧Ag ⟨K,⟨[],true⟩⟩ H TN (x.fs.map (·.2)) (fs.map (·.2))
def Ce(K:PySem.W.Frag)(W:WX)(H:Hp)(σ:L2.St){α:Type}(o:Out α)(R:α→Prop):Prop:=match o with
 | .ok a=>R a
 | .exc x=>∀ c od H',Same H H'→Kb K H' x c od→W c od σ H'
 | .bad=>False
def RE(K:KM)(A:Ad)(H:Hp)(Q:VK)(d:Dt):Prop:=∀ v H',Same H H'→Rep K H' A d v→Q v H'
def RL(K:KM)(A:Ad)(H:Hp)(Q:VK)(ds:List Dt):Prop:=∀ p vs H',Same H H'→H p=none→H' p=some (.lst vs)→Ag K H' (fun a=>A a∨a=p) ds vs→Q (.ref p) H'
def RA(K:KM)(A:Ad)(H:Hp)(Q:List V→Hp→Prop)(ds:List Dt):Prop:=∀ vs H',Same H H'→Ag K H' A ds vs→Q vs H'
def RT(H:Hp)(Q:Bool→Hp→Prop)(b:Bool):Prop:=∀ H',Same H H'→Q b H'
def DZ(K:PySem.W.Frag)(W:WX)(te:TE)(f:Env→Out Dt)(lk:List Nat):Prop:=
 ∀ (μ:Mu) (H0:Hp) (A0:Ad) (ρ:Env) (σ:L2.St) (H:Hp) (Q:VK),StOk ⟨K,μ⟩ H0 A0 H ρ σ→Ce K W H σ (f ρ) (RE ⟨K,μ⟩ (Av ⟨K,μ⟩ A0 ρ σ lk) H Q)→te σ H Q
def VB(K:PySem.W.Frag)(W:WX)(te:TE)(f:Env→Out (List Dt))(lk:List Nat):Prop:=
 ∀ (μ:Mu) (H0:Hp) (A0:Ad) (ρ:Env) (σ:L2.St) (H:Hp) (Q:VK),StOk ⟨K,μ⟩ H0 A0 H ρ σ→Ce K W H σ (f ρ) (RL ⟨K,μ⟩ (Av ⟨K,μ⟩ A0 ρ σ lk) H Q)→te σ H Q
def Q1(K:PySem.W.Frag)(W:WX)(ta:TA)(f:Env→Out (List Dt))(lk:List Nat):Prop:=
 ∀ (μ:Mu) (H0:Hp) (A0:Ad) (ρ:Env) (σ:L2.St) (H:Hp) (Q:List V→Hp→Prop),StOk ⟨K,μ⟩ H0 A0 H ρ σ→Ce K W H σ (f ρ) (RA ⟨K,μ⟩ (Av ⟨K,μ⟩ A0 ρ σ lk) H Q)→ta σ H Q
def OU(K:PySem.W.Frag)(W:WX)(tt:TT)(f:Env→Out Bool)(lk:List Nat):Prop:=
 ∀ (μ:Mu) (H0:Hp) (A0:Ad) (ρ:Env) (σ:L2.St) (H:Hp) (Q:Bool→Hp→Prop),StOk ⟨K,μ⟩ H0 A0 H ρ σ→Ce K W H σ (f ρ) (RT H Q)→tt σ H Q
def Bp(X:Cx)(W:WX)(e:Expr)(f:Env→Out Dt)(lk:List Nat):Prop:=∃ te,PE X e te∧DZ X.K W te f lk
def Ts(X:Cx)(W:WX)(e:Expr)(f:Env→Out (List Dt))(lk:List Nat):Prop:=∃ te,PE X e te∧VB X.K W te f lk
def JR(X:Cx)(W:WX)(es:List Expr)(f:Env→Out (List Dt))(lk:List Nat):Prop:=∃ ta,PA X es ta∧Q1 X.K W ta f lk
def TQ(X:Cx)(W:WX)(e:Expr)(f:Env→Out Bool)(lk:List Nat):Prop:=∃ tt,PT X e tt∧OU X.K W tt f lk
def YH(X:Cx)(W:WX)(e:Expr)(f:Env→Out Bool)(lk:List Nat):Prop:=∃ tt,PW X e tt∧OU X.K W tt f lk
section
variable {K:PySem.W.Frag} {κ:KM} {W:WX} {H0 H H1 H2:Hp} {A A' A0:Ad} {ρ:Env} {σ:L2.St} {lk la lb lc mk:List Nat} {Q:VK} {d:Dt} {v:V} {x:Exn} {α β:Type}
theorem Kb.same{c:Value}{od:Option Addr}(hs:Same H H1)(h:Kb K H x c od):Kb K H1 x c od:=by
 obtain ⟨e,p,h⟩:=h
 refine ⟨e,p,?_⟩
 cases od with
 | none=>exact h
 | some d=>
  obtain ⟨fs,h1,h3,h4⟩:=h
  exact ⟨fs,hs _ _ h1,h3,h4.same hs⟩
theorem Ce.grow{o:Out α}{R:α→Prop}(hs:Same H H1)(h:Ce K W H σ o R):Ce K W H1 σ o R:=by
 cases o with
 | ok d=>exact h
 | exc x=>exact fun c od H' s r=>h c od H' (hs.trans s) r
 | bad=>exact h
theorem Ce.seq{o:Out α}{g:α→Out β}{R:β→Prop}{R':α→Prop}(h:Ce K W H σ (o.bind g) R)(hk:∀ a,o=.ok a→Ce K W H σ (g a) R→R' a):Ce K W H σ o R':=by
 cases o with
 | ok d=>exact hk d rfl h
 | exc x=>exact h
 | bad=>exact h
theorem Ce.imp{o:Out α}{R R':α→Prop}(h:Ce K W H σ o R)(hk:∀ a,o=.ok a→R a→R' a):Ce K W H σ o R':=by
 cases o with
 | ok d=>exact hk d rfl h
 | exc x=>exact h
 | bad=>exact h
theorem ZD{a:Addr}(z:Av κ A0 ρ σ (la ++ lb) a):Av κ A0 ρ σ la a:=Av.sub (fun _ h=>List.mem_append_left _ h) z
theorem avR{a:Addr}(z:Av κ A0 ρ σ (la ++ lb) a):Av κ A0 ρ σ lb a:=Av.sub (fun _ h=>List.mem_append_right _ h) z
def DY{α:Type}:Option α→Out α
 | some a=>.ok a
 | none=>.bad
@[simp] theorem Co{α:Type}(a:α):DY (some a)=.ok a:=rfl
def Ab(i:Nat):Env→Out Dt:=fun ρ=>match ρ[i]? with
 | some (some (.mh _))=>.bad
 | some (some l)=>.ok l.d
 | _=>.bad
def eC(d:Dt):Env→Out Dt:=fun _=>.ok d
def e1(fa:Env→Out Dt)(g:Dt→Option Dt):Env→Out Dt:=fun ρ=>(fa ρ).bind fun a=>DY (g a)
def e2(fa fb:Env→Out Dt)(g:Dt→Dt→Option Dt):Env→Out Dt:=fun ρ=>(fa ρ).bind fun a=>(fb ρ).bind fun b=>DY (g a b)
def t2(fa fb:Env→Out Dt)(g:Dt→Dt→Option Bool):Env→Out Bool:=fun ρ=>(fa ρ).bind fun a=>(fb ρ).bind fun b=>DY (g a b)
def t1(fa:Env→Out Dt)(g:Dt→Option Bool):Env→Out Bool:=fun ρ=>(fa ρ).bind fun a=>DY (g a)
def eT(ft:Env→Out Bool):Env→Out Dt:=fun ρ=>(ft ρ).bind fun b=>.ok (.bl b)
def CH(f g:Env→Out Bool):Env→Out Bool:=fun ρ=>(f ρ).bind fun b=>if b=true then g ρ else .ok false
def CT(f g:Env→Out Bool):Env→Out Bool:=fun ρ=>(f ρ).bind fun b=>if b=true then .ok true else g ρ
def Bw(f:Env→Out Bool):Env→Out Bool:=fun ρ=>(f ρ).bind fun b=>.ok (!b)
def Ah:Env→Out (List Dt):=fun _=>.ok []
def Aa(f:Env→Out Dt)(g:Env→Out (List Dt)):Env→Out (List Dt):=fun ρ=>(f ρ).bind fun d=>(g ρ).bind fun ds=>.ok (d :: ds)
def Jo(f:Env→Out (List Dt)):Env→Out Dt:=fun ρ=>(f ρ).bind fun ds=>if ds.length≤16777216 then .ok (.tup ds) else .bad
def FZ(f:Env→Out (List Dt)):Env→Out (List Dt):=fun ρ=>(f ρ).bind fun ds=>if ds.length≤16777216 then .ok ds else .bad
def eL(f:Env→Out (List Dt)):Env→Out Dt:=fun ρ=>(f ρ).bind fun ds=>.ok (.lst ds)
def MI(K:PySem.W.Frag)(r:R2)(g:Dt→Dt→Option Dt):Prop:=∀ (μ:Mu) (H:Hp) (A:Ad) (a b d:Dt) (x y:V) (Q:VK),(∀ c,A c→H c≠none)→Rep ⟨K,μ⟩ H A a x→Rep ⟨K,μ⟩ H A b y→g a b=some d→RE ⟨K,μ⟩ A H Q d→r x y H Q
def KS(K:PySem.W.Frag)(r:R2)(g:Dt→Dt→Option Bool):Prop:=∀ (μ:Mu) (H:Hp) (A:Ad) (a b:Dt) (d:Bool) (x y:V) (Q:VK),Rep ⟨K,μ⟩ H A a x→Rep ⟨K,μ⟩ H A b y→g a b=some d→Q (.bl d) H→r x y H Q
theorem MI.or{r r':R2}{g g':Dt→Dt→Option Dt}(h:MI K r g)(h':MI K r' g'):MI K (fun x y H Q=>r x y H Q∨r' x y H Q) (fun a b=>(g a b).orElse fun _=>g' a b):=by
 intro μ H A a b d x y Q ha ra rb e q
 cases e1:g a b with
 | some d'=>
  simp only [e1,Option.orElse] at e
  cases e
  exact .inl (h μ H A a b d x y Q ha ra rb e1 q)
 | none=>
  simp only [e1,Option.orElse] at e
  exact .inr (h' μ H A a b d x y Q ha ra rb e q)
theorem KS.or{r r':R2}{g g':Dt→Dt→Option Bool}(h:KS K r g)(h':KS K r' g'):KS K (fun x y H Q=>r x y H Q∨r' x y H Q) (fun a b=>(g a b).orElse fun _=>g' a b):=by
 intro μ H A a b d x y Q ra rb e q
 cases e1:g a b with
 | some d'=>
  simp only [e1,Option.orElse] at e
  cases e
  exact .inl (h μ H A a b d x y Q ra rb e1 q)
 | none=>
  simp only [e1,Option.orElse] at e
  exact .inr (h' μ H A a b d x y Q ra rb e q)
theorem Bt{o:Option α}{R:α→Prop}(h:Ce K W H σ (DY o) R):∃ a,o=some a∧R a:=by
 cases o with
 | some a=>exact ⟨a,rfl,h⟩
 | none=>exact False.elim h
theorem RE.grow(hs:Same H H1)(h:RE κ A H Q d):RE κ A H1 Q d:=fun v H' s r=>h v H' (hs.trans s) r
theorem RE.now(h:RE κ A H Q d)(r:Rep κ H A d v):Q v H:=h v H (Same.refl H) r
theorem VZ(i:Nat):DZ K W (tVar i) (Ab i) [i]:=by
 intro μ H0 A0 ρ σ H Q s h
 unfold Ab at h
 split at h
 ·exact False.elim h
 ·rename_i l hn e
  obtain ⟨v,e1,r⟩:=s.val e (by cases l with | mh cs=>exact (hn cs rfl).elim | _=>rfl)
  exact ⟨v,e1,RE.now h r⟩
 ·exact False.elim h
theorem M6{v:V}{d:Dt}(hr:∀ κ H A,Rep κ H A d v):DZ K W (tC v) (eC d) []:=fun μ H0 A0 ρ σ H Q s h=>RE.now h (hr _ _ _)
theorem XS{ta tb:TE}{fa fb:Env→Out Dt}{g:Dt→Dt→Option Dt}{r:R2}(hr:MI K r g)(ha:DZ K W ta fa la)(hb:DZ K W tb fb lb):DZ K W (tOp r ta tb) (e2 fa fb g) (la ++ lb):=by
 intro μ H0 A0 ρ σ H Q s h
 refine ha _ _ _ _ _ _ _ s (h.seq fun a _ h1 v1 H1 s1 r1=>?_)
 refine hb _ _ _ _ _ _ _ (s.grow s1) ((h1.grow s1).seq fun b _ h2 v2 H2 s2 r2=>?_)
 obtain ⟨d,e,q⟩:=Bt h2
 exact hr _ H2 _ a b d v1 v2 Q (fun c z=>(s.grow (s1.trans s2)).Hq z) ((r1.same s2).Bv fun _=>ZD) (r2.Bv fun _=>avR) e (RE.grow (s1.trans s2) q)
theorem Rep.TM(h:Rep κ H A d v):Rep κ H TN d v:=h.Bv fun _ z=>False.elim z
theorem Md{ta tb:TE}{fa fb:Env→Out Dt}{g:Dt→Dt→Option Dt}{r:R2}(hr:MI K r g)(hg:∀ a b d,g a b=some d→d.scal=true)(ha:DZ K W ta fa la)(hb:DZ K W tb fb lb):DZ K W (tOp r ta tb) (e2 fa fb g) []:=by
 intro μ H0 A0 ρ σ H Q s h
 refine ha _ _ _ _ _ _ _ s (h.seq fun a _ h1 v1 H1 s1 r1=>?_)
 refine hb _ _ _ _ _ _ _ (s.grow s1) ((h1.grow s1).seq fun b _ h2 v2 H2 s2 r2=>?_)
 obtain ⟨d,e,q⟩:=Bt h2
 refine hr _ H2 TN a b d v1 v2 Q (fun c z=>False.elim z) (r1.same s2).TM r2.TM e fun v H' s' r=>?_
 exact q v H' ((s1.trans s2).trans s') (r.scal (hg _ _ _ e))
theorem Z2{ta tb:TE}{fa fb:Env→Out Dt}{g:Dt→Dt→Option Bool}{r:R2}(hr:KS K r g)(ha:DZ K W ta fa la)(hb:DZ K W tb fb lb):OU K W (tTest (tOp r ta tb)) (t2 fa fb g) []:=by
 intro μ H0 A0 ρ σ H Q s h
 refine ha _ _ _ _ _ _ _ s (h.seq fun a _ h1 v1 H1 s1 r1=>?_)
 refine hb _ _ _ _ _ _ _ (s.grow s1) ((h1.grow s1).seq fun b _ h2 v2 H2 s2 r2=>?_)
 obtain ⟨d,e,q⟩:=Bt h2
 exact hr _ H2 TN a b d v1 v2 _ (r1.same s2).TM r2.TM e ⟨d,rfl,q H2 (s1.trans s2)⟩
theorem Xb{ta tb:TE}{fa fb:Env→Out Dt}{g:Dt→Dt→Option Bool}{r:R2}(hr:KS K r g)(ha:DZ K W ta fa la)(hb:DZ K W tb fb lb):DZ K W (tOp r ta tb) (eT (t2 fa fb g)) []:=by
 intro μ H0 A0 ρ σ H Q s h
 unfold eT t2 at h
 rw [Out.bind_assoc] at h
 refine ha _ _ _ _ _ _ _ s (h.seq fun a _ h1 v1 H1 s1 r1=>?_)
 rw [Out.bind_assoc] at h1
 refine hb _ _ _ _ _ _ _ (s.grow s1) ((h1.grow s1).seq fun b _ h2 v2 H2 s2 r2=>?_)
 cases e:g a b with
 | none=>
  rw [e] at h2
  exact False.elim h2
 | some d=>
  rw [e] at h2
  exact hr _ H2 TN a b d v1 v2 _ (r1.same s2).TM r2.TM e (h2 (.bl d) H2 (s1.trans s2) rfl)
theorem WK{ta tb:TT}{fa fb:Env→Out Bool}(ha:OU K W ta fa la)(hb:OU K W tb fb lb):OU K W (tAnd ta tb) (CH fa fb) []:=by
 intro μ H0 A0 ρ σ H Q s h
 refine ha _ _ _ _ _ _ _ s (h.seq fun b _ h1 H1 s1=>?_)
 cases b with
 | true=>exact hb _ _ _ _ _ _ _ (s.grow s1) ((h1.grow s1).imp fun c _ q H2 s2=>q H2 (s1.trans s2))
 | false=>exact h1 H1 s1
theorem Y4{ta tb:TT}{fa fb:Env→Out Bool}(ha:OU K W ta fa la)(hb:OU K W tb fb lb):OU K W (tOr ta tb) (CT fa fb) []:=by
 intro μ H0 A0 ρ σ H Q s h
 refine ha _ _ _ _ _ _ _ s (h.seq fun b _ h1 H1 s1=>?_)
 cases b with
 | false=>exact hb _ _ _ _ _ _ _ (s.grow s1) ((h1.grow s1).imp fun c _ q H2 s2=>q H2 (s1.trans s2))
 | true=>exact h1 H1 s1
theorem VD{ta:TT}{fa:Env→Out Bool}(ha:OU K W ta fa la):OU K W (tNot ta) (Bw fa) []:=by
 intro μ H0 A0 ρ σ H Q s h
 exact ha _ _ _ _ _ _ _ s (h.seq fun b _ h1 H1 s1=>h1 H1 s1)
theorem RG:Q1 K W tNil Ah []:=fun μ H0 A0 ρ σ H Q s h=>h [] H (Same.refl H) Ag.nil
theorem Uc{ta:TE}{tr:TA}{f:Env→Out Dt}{g:Env→Out (List Dt)}(ha:DZ K W ta f la)(hr:Q1 K W tr g lb):Q1 K W (tCons ta tr) (Aa f g) (la ++ lb):=by
 intro μ H0 A0 ρ σ H Q s h
 refine ha _ _ _ _ _ _ _ s (h.seq fun a _ h1 v1 H1 s1 r1=>?_)
 refine hr _ _ _ _ _ _ _ (s.grow s1) ((h1.grow s1).seq fun b _ h2 v2 H2 s2 r2=>?_)
 exact h2 _ H2 (s1.trans s2) (Ag.cons ((r1.same s2).Bv fun _=>ZD) (r2.Bv fun _=>avR))
theorem Same.new{p:Addr}{o:HO}(h:H p=none):Same H (upd H p o):=fun a u e=>by
 rw [upd_ne (ne_of_none e h)]
 exact e
theorem V8{ta:TA}{f:Env→Out (List Dt)}(ha:Q1 K W ta f la):DZ K W (tTup ta) (Jo f) la:=by
 intro μ H0 A0 ρ σ H Q s h
 refine ha _ _ _ _ _ _ _ s (h.seq fun ds _ h1 vs H1 s1 r1=>?_)
 split at h1
 ·rename_i hl
  refine ⟨by rw [r1.length,sizeLine_eq]; exact hl,fun p hp=>h1 _ _ (s1.trans (Same.new hp)) ?_⟩
  unfold Rep
  exact ⟨p,vs,rfl,.inl ⟨(s.grow s1).MJ hp,upd_same⟩,r1.same (Same.new hp)⟩
 ·exact False.elim h1
theorem Wv{ta:TA}{f:Env→Out (List Dt)}(ha:Q1 K W ta f la):VB K W (tLst ta) (FZ f) la:=by
 intro μ H0 A0 ρ σ H Q s h
 refine ha _ _ _ _ _ _ _ s (h.seq fun ds _ h1 vs H1 s1 r1=>?_)
 split at h1
 ·rename_i hl
  refine ⟨by rw [r1.length,sizeLine_eq]; exact hl,fun p hp=>h1 p vs _ (s1.trans (Same.new hp)) (s1.free hp) upd_same ?_⟩
  exact (Ag.fresh hp _ _ r1).same (Same.new hp)
 ·exact False.elim h1
theorem ZX{te:TE}{f:Env→Out (List Dt)}(ha:VB K W te f la):DZ K W te (eL f) la:=by
 intro μ H0 A0 ρ σ H Q s h
 refine ha _ _ _ _ _ _ _ s (h.seq fun ds _ h1 p vs H1 s1 hp hp' r=>h1 _ H1 s1 ?_)
 unfold Rep
 exact ⟨p,vs,rfl,s.MJ hp,hp',r.Bv fun _ z=>.inl z⟩
end
end FD
namespace FD
open PySem L2
theorem AX{α:Type}{c:Prop}[Decidable c]{a b:α}(h:(if c then some a else none)=some b):c∧a=b:=by
 split at h
 ·exact ⟨‹_›,Option.some.inj h⟩
 ·cases h
def gI(C:Int→Int→Bool)(f:Int→Int→Int):Dt→Dt→Option Dt
 | .int i,.int j=>if C i j=true then some (.int (f i j)) else none
 | _,_=>none
def Je(f:Int→Int→Int):Dt→Dt→Option Dt
 | .int i,.int j=>some (.int (f i j))
 | _,_=>none
def cI(f:Int→Int→Bool):Dt→Dt→Option Bool
 | .int i,.int j=>some (f i j)
 | _,_=>none
@[simp] theorem E1(C:Int→Int→Bool)(f:Int→Int→Int)(i j:Int):gI C f (.int i) (.int j)=if C i j=true then some (.int (f i j)) else none:=rfl
@[simp] theorem Jc(f:Int→Int→Int)(i j:Int):Je f (.int i) (.int j)=some (.int (f i j)):=rfl
@[simp] theorem Ll(f:Int→Int→Bool)(i j:Int):cI f (.int i) (.int j)=some (f i j):=rfl
def Xs:Dt→Dt→Option Dt
 | .str x,.str y=>if x.length + y.length≤16777216 then some (.str (x ++ y)) else none
 | _,_=>none
def XG:Dt→Dt→Option Dt
 | .lst x,.lst y=>if x.length + y.length≤16777216 then some (.lst (x ++ y)) else none
 | _,_=>none
def XI:Dt→Dt→Option Dt
 | .tup x,.tup y=>if x.length + y.length≤16777216∧x≠[] then some (.tup (x ++ y)) else none
 | _,_=>none
section
variable {K:PySem.W.Frag} {H:Hp} {A:Ad}
theorem Um{C:Int→Int→Bool}{f:Int→Int→Int}{a b d:Dt}(h:gI C f a b=some d):∃ i j,a=.int i∧b=.int j∧C i j=true∧d=.int (f i j):=by
 cases a <;> cases b <;> try (cases h; done)
 rename_i i j
 obtain ⟨h1,h2⟩:=AX h
 exact ⟨i,j,rfl,rfl,h1,h2.symm⟩
theorem Rm{f:Int→Int→Int}{a b d:Dt}(h:Je f a b=some d):∃ i j,a=.int i∧b=.int j∧d=.int (f i j):=by
 cases a <;> cases b <;> try (cases h; done)
 rename_i i j
 cases h
 exact ⟨i,j,rfl,rfl,rfl⟩
theorem Yt{f:Int→Int→Bool}{a b:Dt}{d:Bool}(h:cI f a b=some d):∃ i j,a=.int i∧b=.int j∧d=f i j:=by
 cases a <;> cases b <;> try (cases h; done)
 rename_i i j
 cases h
 exact ⟨i,j,rfl,rfl,rfl⟩
theorem Pb{C:Int→Int→Bool}{C':Int→Int→Prop}{f:Int→Int→Int}(hc:∀ i j,C i j=true→C' i j):MI K (rI C' fun i j=>.int (f i j)) (gI C f):=by
 intro μ H A a b d x y Q _ ra rb e q
 obtain ⟨i,j,rfl,rfl,c,rfl⟩:=Um e
 exact ⟨i,j,ra,rb,hc i j c,RE.now q rfl⟩
theorem N2{f:Int→Int→Int}:MI K (rI0 fun i j=>.int (f i j)) (Je f):=by
 intro μ H A a b d x y Q _ ra rb e q
 obtain ⟨i,j,rfl,rfl,rfl⟩:=Rm e
 exact ⟨i,j,ra,rb,RE.now q rfl⟩
theorem Qw{f:Int→Int→Bool}:KS K (rI0 fun i j=>.bl (f i j)) (cI f):=by
 intro μ H A a b d x y Q ra rb e q
 obtain ⟨i,j,rfl,rfl,rfl⟩:=Yt e
 exact ⟨i,j,ra,rb,q⟩
def Ri:R2:=fun x y H Q=>∃ i j,x=.str i∧y=.str j∧i.length + j.length≤sizeLine∧Q (.str (i ++ j)) H
theorem Q6:MI K Ri Xs:=by
 intro μ H A a b d x y Q _ ra rb e q
 cases a <;> cases b <;> try (cases e; done)
 rename_i i j
 obtain ⟨h1,rfl⟩:=AX e
 exact ⟨i,j,ra,rb,by rw [sizeLine_eq]; exact h1,RE.now q rfl⟩
theorem RX:MI K rCat XG:=by
 intro μ H A a b d x y Q ha ra rb e q
 cases a <;> cases b <;> try (cases e; done)
 rename_i ds es
 obtain ⟨h1,rfl⟩:=AX e
 unfold Rep at ra rb
 obtain ⟨p,vs,rfl,np,hp,rp⟩:=ra
 obtain ⟨p',us,rfl,np',hp',rp'⟩:=rb
 refine ⟨p,p',vs,us,rfl,rfl,hp,hp',by rw [rp.length,rp'.length,sizeLine_eq]; exact h1,fun c hc=>q _ _ (Same.new hc) ?_⟩
 unfold Rep
 refine ⟨c,vs ++ us,rfl,fun z=>ha c z hc,upd_same,(Ag.append rp rp').same (Same.new hc)⟩
theorem SqT.TH{K:PySem.W.Frag}{a:Addr}{vs:List V}(h:(¬ A a∧H a=some (.tup vs))∨ak K a vs):SqT K H a vs:=by
 rcases h with ⟨_,h⟩ | h
 ·exact SqT.of h
 ·exact .inr h
theorem Q7:MI K (rCatT K) XI:=by
 intro μ H A a b d x y Q ha ra rb e q
 cases a <;> cases b <;> try (cases e; done)
 rename_i ds es
 obtain ⟨⟨h1,h2⟩,rfl⟩:=AX e
 have ra':=ra
 unfold Rep at ra rb
 obtain ⟨p,vs,rfl,hp,rp⟩:=ra
 obtain ⟨p',us,rfl,hp',rp'⟩:=rb
 have nv:vs≠[]:=by
  rintro rfl
  have:=rp.length
  simp at this
  exact h2 (List.length_eq_zero_iff.mp this.symm)
 refine ⟨p,p',vs,us,rfl,rfl,SqT.TH hp,SqT.TH hp',nv,by rw [rp.length,rp'.length,sizeLine_eq]; exact h1,?_⟩
 refine ⟨fun hu=>?_,fun _=>?_⟩
 ·subst hu
  have:es=[]:=by
   have:=rp'.length
   simp at this
   exact List.length_eq_zero_iff.mp this.symm
  subst this
  rw [List.append_nil] at q
  exact RE.now q ra'
 ·intro c hc
  refine q _ _ (Same.new hc) ?_
  unfold Rep
  exact ⟨c,vs ++ us,rfl,.inl ⟨fun z=>ha c z hc,upd_same⟩,(Ag.append rp rp').same (Same.new hc)⟩
end
section
variable {X:Cx} {pos:Pos} {a b e:Expr} {W:WX} {fa fb fc:Env→Out Dt} {la lb lc:List Nat}
def AJ:Dt→Dt→Option Dt:=fun a b=>(Je (· + ·) a b).orElse fun _=>(Xs a b).orElse fun _=>(XG a b).orElse fun _=>XI a b
@[simp] theorem Gk(i j:Int):AJ (.int i) (.int j)=some (.int (i + j)):=rfl
@[simp] theorem Ug(i j:Str):AJ (.str i) (.str j)=if i.length + j.length≤16777216 then some (.str (i ++ j)) else none:=by
 show ((if i.length + j.length≤16777216 then some (Dt.str (i ++ j)) else none).orElse fun _=>none)=_
 split <;> rfl
@[simp] theorem IC(i j:List Dt):AJ (.lst i) (.lst j)=if i.length + j.length≤16777216 then some (.lst (i ++ j)) else none:=by
 show ((if i.length + j.length≤16777216 then some (Dt.lst (i ++ j)) else none).orElse fun _=>none)=_
 split <;> rfl
theorem Rz:OpR X (binaryOp .Add) (fun x y H Q=>rI0 (fun i j=>.int (i + j)) x y H Q∨(Ri x y H Q∨(rCat x y H Q∨rCatT X.K x y H Q))):=op_add.or (op_add_str.or (op_cat.or op_catT))
theorem BL(ha:Bp X W a fa la)(hb:Bp X W b fb lb):Bp X W (.BinOp a .Add b pos) (e2 fa fb AJ) (la ++ lb):=by
 obtain ⟨ta,pa,da⟩:=ha
 obtain ⟨tb,pb,db⟩:=hb
 exact ⟨_,pe_op Rz pa pb,XS (MI.or N2 (MI.or Q6 (MI.or RX Q7))) da db⟩
theorem PV{f:Int→Int→Int}:∀ a b d,Je f a b=some d→d.scal=true:=fun a b d h=>by
 obtain ⟨i,j,_,_,rfl⟩:=Rm h
 rfl
theorem Ja{C:Int→Int→Bool}{f:Int→Int→Int}:∀ a b d,gI C f a b=some d→d.scal=true:=fun a b d h=>by
 obtain ⟨i,j,_,_,_,rfl⟩:=Um h
 rfl
theorem Ht(ha:Bp X W a fa la)(hb:Bp X W b fb lb):Bp X W (.BinOp a .Sub b pos) (e2 fa fb (Je (· - ·))) []:=by
 obtain ⟨ta,pa,da⟩:=ha
 obtain ⟨tb,pb,db⟩:=hb
 exact ⟨_,pe_op op_sub pa pb,Md N2 PV da db⟩
def Td(i j:Int):Bool:=decide (i.natAbs.log2 + j.natAbs.log2 < 1000000)
def ME(_ j:Int):Bool:=decide (j≠0∧j.natAbs.log2 < 9000)
theorem UX:OpR X (binaryOp .FloorDiv) (rI (fun _ j=>j≠0∧j.natAbs.log2 < 9000) fun i j=>.int (i.fdiv j)):=
 opI fun i j _ _ _ _ _ hc q=>PyProof.Rows.floordiv_int hc.1 q (.inl (PyProof.noPylong_of_log2 hc.2))
theorem Kx(ha:Bp X W a fa la)(hb:Bp X W b fb lb):Bp X W (.BinOp a .FloorDiv b pos) (e2 fa fb (gI ME Int.fdiv)) []:=by
 obtain ⟨ta,pa,da⟩:=ha
 obtain ⟨tb,pb,db⟩:=hb
 exact ⟨_,pe_op UX pa pb,Md (Pb fun i j h=>of_decide_eq_true h) Ja da db⟩
def TJ(_ j:Int):Bool:=decide (j≠0)
theorem JF(ha:Bp X W a fa la)(hb:Bp X W b fb lb):Bp X W (.BinOp a .Mod b pos) (e2 fa fb (gI TJ Int.fmod)) []:=by
 obtain ⟨ta,pa,da⟩:=ha
 obtain ⟨tb,pb,db⟩:=hb
 exact ⟨_,pe_op op_modN pa pb,Md (Pb fun i j h=>of_decide_eq_true h) Ja da db⟩
def SF(i j:Int):Bool:=decide (0≤j∧j≤1000000∧i.natAbs < 2 ^ 64)
theorem Qe(ha:Bp X W a fa la)(hb:Bp X W b fb lb):Bp X W (.BinOp a .Pow b pos) (e2 fa fb (gI SF fun i j=>i ^ j.toNat)) []:=by
 obtain ⟨ta,pa,da⟩:=ha
 obtain ⟨tb,pb,db⟩:=hb
 exact ⟨_,pe_op op_pow pa pb,Md (Pb fun i j h=>(show 0≤j∧j≤1000000∧i.natAbs < 2 ^ 64 from of_decide_eq_true h)) Ja da db⟩
theorem Ae(i:Nat){x:Str}{p:Pos}(hN:X.N[i]? = some x:=by rfl)(hv:Vis X.env.scope x:=by first | exact Or.inl rfl | exact Or.inr (Or.inl rfl) | exact Or.inr (Or.inr rfl))(hd:(x == ("__debug__" : Str))=false:=by decide)
  (hcd:(x == ("__classdict__" : Str))=false:=by decide):Bp X W (.Name x p) (Ab i) [i]:=⟨_,pe_var hN hv hd hcd,VZ i⟩
theorem Aj{i:Int}{j p}:Bp X W (.Constant (.int i) j p) (eC (.int i)) []:=⟨_,pe_int,M6 fun _ _ _=>rfl⟩
theorem CZ{i:Bool}{j p}:Bp X W (.Constant (.bool i) j p) (eC (.bl i)) []:=⟨_,pe_bl,M6 fun _ _ _=>rfl⟩
theorem Fw{j p}:Bp X W (.Constant .none j p) (eC .non) []:=⟨_,pe_non,M6 fun _ _ _=>rfl⟩
theorem Dj{s:Str}{j p}:Bp X W (.Constant (.str s) j p) (eC (.str s)) []:=⟨_,pe_str,M6 fun _ _ _=>rfl⟩
theorem HW{x:Str}{v:V}{d:Dt}{p:Pos}(hg:Gl X x)(hm:∃ u,X.mg x=some u∧RelV v u)(hr:∀ κ H A,Rep κ H A d v)(hd:(x == ("__debug__" : Str))=false:=by decide):Bp X W (.Name x p) (eC d) []:=by
 obtain ⟨u,h1,h2⟩:=hm
 exact ⟨_,pe_glob hg h1 h2 hd,M6 hr⟩
theorem FR{x:Str}{n:String}{p:Pos}(hg:Gl X x)(hm:X.mg x=none)(hv:bootBuiltins x=some (.type n))(hn:x≠"__name__":=by decide)(hd:(x == ("__debug__" : Str))=false:=by decide):Bp X W (.Name x p) (eC (.ty n)) []:=
 ⟨_,pe_bltn hg hm hv (show RelV (V.ty n) _ from rfl) hn hd,M6 fun _ _ _=>rfl⟩
end
mutual
def Dt.py:Dt→Option PyData
 | .non=>some .none
 | .bl b=>some (.bool b)
 | .int i=>some (.int i)
 | .str s=>some (.str s)
 | .tup ds=>(Dt.Nd ds).map .tuple
 | .ptp ds=>(Dt.Nd ds).map .tuple
 | .lst ds=>(Dt.Nd ds).map .list
 | _=>none
def Dt.Nd:List Dt→Option (List PyData)
 | []=>some []
 | d :: ds=>(Dt.py d).bind fun p=>(Dt.Nd ds).map fun q=>p :: q
end
mutual
theorem Rep.dp{K:KM}{H:Hp}{A:Ad}:∀ (d:Dt) (v:V) (p:PyData),d.py=some p→Rep K H A d v→Dp K.K H v p
 | .non,v,p,e,r=>by
  have e':v=.non:=r
  subst e'
  unfold Dt.py at e
  cases e
  exact .non
 | .bl b,v,p,e,r=>by
  have e':v=.bl b:=r
  subst e'
  unfold Dt.py at e
  cases e
  exact .bl b
 | .int b,v,p,e,r=>by
  have e':v=.int b:=r
  subst e'
  unfold Dt.py at e
  cases e
  exact .int b
 | .str b,v,p,e,r=>by
  have e':v=.str b:=r
  subst e'
  unfold Dt.py at e
  cases e
  exact .str b
 | .ty _,_,_,e,_=>by simp [Dt.py] at e
 | .cls _,_,_,e,_=>by simp [Dt.py] at e
 | .ad _,_,_,e,_=>by simp [Dt.py] at e
 | .dit _ _,_,_,e,_=>by simp [Dt.py] at e
 | .fls _,_,_,e,_=>by simp [Dt.py] at e
 | .dic _ _,_,_,e,_=>by simp [Dt.py] at e
 | .obj _ _ _,_,_,e,_=>by simp [Dt.py] at e
 | .exn _ _ _ _ _,_,_,e,_=>by simp [Dt.py] at e
 | .tup ds,v,p,e,r=>by
  unfold Dt.py at e
  cases ep:Dt.Nd ds with
  | none=>rw [ep] at e; cases e
  | some ps=>
   rw [ep] at e
   cases e
   unfold Rep at r
   obtain ⟨a,vs,rfl,h,hr⟩:=r
   exact .tup (SqT.TH h) (Ag.YN ds vs ps ep hr)
 | .ptp ds,v,p,e,r=>by
  unfold Dt.py at e
  cases ep:Dt.Nd ds with
  | none=>rw [ep] at e; cases e
  | some ps=>
   rw [ep] at e
   cases e
   unfold Rep at r
   obtain ⟨a,vs,rfl,⟨_,o,h,_⟩,hr⟩:=r
   exact .tup (.inl (.inr ⟨o,h⟩)) (Ag.YN ds vs ps ep hr)
 | .lst ds,v,p,e,r=>by
  unfold Dt.py at e
  cases ep:Dt.Nd ds with
  | none=>rw [ep] at e; cases e
  | some ps=>
   rw [ep] at e
   cases e
   unfold Rep at r
   obtain ⟨a,vs,rfl,_,h,hr⟩:=r
   exact .lst (SqL.of h) (Ag.YN ds vs ps ep hr)
theorem Ag.YN{K:KM}{H:Hp}{A:Ad}:∀ (ds:List Dt) (vs:List V) (ps:List PyData),Dt.Nd ds=some ps→Ag K H A ds vs→DpAll K.K H vs ps
 | [],vs,ps,e,r=>by
  unfold Dt.Nd at e
  unfold Ag at r
  cases e
  subst r
  exact .nil
 | d :: ds,vs,ps,e,r=>by
  unfold Dt.Nd at e
  unfold Ag at r
  obtain ⟨v,t,rfl,h1,h2⟩:=r
  cases e1:Dt.py d with
  | none=>rw [e1] at e; cases e
  | some p=>
   cases e2:Dt.Nd ds with
   | none=>rw [e1,e2] at e; cases e
   | some qs=>
    rw [e1,e2] at e
    cases e
    exact .cons (Rep.dp d v p e1 h1) (Ag.YN ds t qs e2 h2)
end
def Y7:Dt→Dt→Option Bool
 | .int i,.int j=>some (i == j)
 | .str i,.str j=>some (i == j)
 | .bl i,.bl j=>some (i == j)
 | .non,.non=>some true
 | _,_=>none
def Sj(a b:Dt):Option Bool:=a.py.bind fun p=>b.py.bind fun q=>if SeqAt.shaped p=true∧SeqAt.shaped q=true then some (PyData.eqv p q) else none
def Fb(a b:Dt):Option Bool:=(Y7 a b).orElse fun _=>Sj a b
@[simp] theorem HZ(i j:Int):Fb (.int i) (.int j)=some (i == j):=rfl
@[simp] theorem LJ(i j:Bool):Fb (.bl i) (.bl j)=some (i == j):=rfl
section
variable {K:PySem.W.Frag}
theorem WU:KS K rEq Y7:=by
 intro μ H A a b d x y Q ra rb e q
 cases a <;> cases b <;> try (cases e; done)
 ·have e1:x=.non:=ra
  have e2:y=.non:=rb
  subst e1 e2
  cases e
  exact ⟨rfl,q⟩
 ·rename_i i j
  have e1:x=.bl i:=ra
  have e2:y=.bl j:=rb
  subst e1 e2
  cases e
  exact ⟨rfl,by rw [dec_bl]; exact q⟩
 ·rename_i i j
  have e1:x=.int i:=ra
  have e2:y=.int j:=rb
  subst e1 e2
  cases e
  exact ⟨rfl,by rw [dec_int]; exact q⟩
 ·rename_i i j
  have e1:x=.str i:=ra
  have e2:y=.str j:=rb
  subst e1 e2
  cases e
  exact ⟨rfl,by rw [dec_str]; exact q⟩
theorem Rh{a b:Dt}{d:Bool}(h:Sj a b=some d):∃ p q,a.py=some p∧b.py=some q∧SeqAt.shaped p=true∧SeqAt.shaped q=true∧d=PyData.eqv p q:=by
 unfold Sj at h
 cases e1:a.py with
 | none=>rw [e1] at h; cases h
 | some p=>
  cases e2:b.py with
  | none=>rw [e1,e2] at h; cases h
  | some q=>
   rw [e1,e2] at h
   obtain ⟨⟨h1,h2⟩,h3⟩:=AX h
   exact ⟨p,q,rfl,rfl,h1,h2,h3.symm⟩
theorem Wr:KS K (rEqD K) Sj:=by
 intro μ H A a b d x y Q ra rb e q
 obtain ⟨p,p',h1,h2,h3,h4,rfl⟩:=Rh e
 exact ⟨p,p',Rep.dp a x p h1 ra,Rep.dp b y p' h2 rb,h3,h4,q⟩
def CY(g:Dt→Dt→Option Bool):Dt→Dt→Option Bool:=fun a b=>(g a b).map fun x=>!x
@[simp] theorem IU(g:Dt→Dt→Option Bool)(a b:Dt):CY g a b=(g a b).map fun x=>!x:=rfl
theorem WO:KS K rNe (CY Y7):=by
 intro μ H A a b d x y Q ra rb e q
 cases a <;> cases b <;> try (cases e; done)
 ·have e1:x=.non:=ra
  have e2:y=.non:=rb
  subst e1 e2
  cases e
  exact ⟨rfl,q⟩
 ·rename_i i j
  have e1:x=.bl i:=ra
  have e2:y=.bl j:=rb
  subst e1 e2
  cases e
  exact ⟨rfl,by rw [dec_bl]; exact q⟩
 ·rename_i i j
  have e1:x=.int i:=ra
  have e2:y=.int j:=rb
  subst e1 e2
  cases e
  exact ⟨rfl,by rw [dec_int]; exact q⟩
 ·rename_i i j
  have e1:x=.str i:=ra
  have e2:y=.str j:=rb
  subst e1 e2
  cases e
  exact ⟨rfl,by rw [dec_str]; exact q⟩
theorem Xk:KS K (rNeD K) (CY Sj):=by
 intro μ H A a b d x y Q ra rb e q
 cases e1:Sj a b with
 | none=>simp [CY,e1] at e
 | some d'=>
  simp only [CY,e1,Option.map_some,Option.some.injEq] at e
  subst e
  obtain ⟨p,p',h1,h2,h3,h4,rfl⟩:=Rh e1
  exact ⟨p,p',Rep.dp a x p h1 ra,Rep.dp b y p' h2 rb,h3,h4,q⟩
def XW:Dt→Dt→Option Bool
 | .non,.non=>some true
 | _,.non=>some false
 | _,_=>none
theorem VJ:KS K (fun x y H Q=>y=.non∧Q (.bl (decide (x=.non))) H) XW:=by
 intro μ H A a b d x y Q ra rb e q
 cases b <;> try (cases a <;> cases e; done)
 have e2:y=.non:=rb
 refine ⟨e2,?_⟩
 have hd:decide (x=V.non)=d:=by
  cases a with
  | non=>cases e; have e1:x=.non:=ra; subst e1; rfl
  | bl i=>cases e; have e1:x=.bl i:=ra; subst e1; rfl
  | int i=>cases e; have e1:x=.int i:=ra; subst e1; rfl
  | str i=>cases e; have e1:x=.str i:=ra; subst e1; rfl
  | ty i=>cases e; have e1:x=.ty i:=ra; subst e1; rfl
  | cls i=>cases e; have e1:x=.ref i:=ra; subst e1; rfl
  | ad k=>cases e; unfold Rep at ra; obtain ⟨a,_,rfl⟩:=ra; rfl
  | dit ks ds=>cases e; unfold Rep at ra; obtain ⟨a,vs,rfl,_⟩:=ra; rfl
  | tup ds=>cases e; unfold Rep at ra; obtain ⟨a,vs,rfl,_⟩:=ra; rfl
  | ptp ds=>cases e; unfold Rep at ra; obtain ⟨a,vs,rfl,_⟩:=ra; rfl
  | ntp ds=>cases e; unfold Rep at ra; obtain ⟨a,vs,rfl,_⟩:=ra; rfl
  | lst ds=>cases e; unfold Rep at ra; obtain ⟨a,vs,rfl,_⟩:=ra; rfl
  | fls ds=>cases e; unfold Rep at ra; obtain ⟨a,vs,rfl,_⟩:=ra; rfl
  | dic ks ds=>cases e; unfold Rep at ra; obtain ⟨a,vs,rfl,_⟩:=ra; rfl
  | obj C ns ds=>cases e; unfold Rep at ra; obtain ⟨a,dx,fs,rfl,_⟩:=ra; rfl
  | exn a od C ns ds=>cases e; unfold Rep at ra; obtain ⟨fs,rfl,_⟩:=ra; rfl
 rw [hd]
 exact q
end
section
variable {X:Cx} {pos:Pos} {a b c e:Expr} {W:WX} {fa fb fc:Env→Out Dt} {la lb lc:List Nat} {rest:List Expr} {ft fu:Env→Out Bool}
theorem aq{op:CmpOp}{r:R2}{g:Dt→Dt→Option Bool}(ho:OpR X (compareOp op) r)(hg:KS X.K r g)(ha:Bp X W a fa la)(hb:Bp X W b fb lb)(hm:behindInMarks op b=false):TQ X W (.Compare a [op] [b] pos) (t2 fa fb g) []:=by
 obtain ⟨ta,pa,da⟩:=ha
 obtain ⟨tb,pb,db⟩:=hb
 exact ⟨_,pt_cmpR ho pa pb hm,Z2 hg da db⟩
theorem ZT{op:CmpOp}{r:R2}{g:Dt→Dt→Option Bool}(ho:OpR X (compareOp op) r)(hg:KS X.K r g)(ha:Bp X W a fa la)(hb:Bp X W b fb lb)(hm:behindInMarks op b=false):Bp X W (.Compare a [op] [b] pos) (eT (t2 fa fb g)) []:=by
 obtain ⟨ta,pa,da⟩:=ha
 obtain ⟨tb,pb,db⟩:=hb
 exact ⟨_,pe_cmpR ho pa pb hm,Xb hg da db⟩
structure Cmp (X:Cx) (op:CmpOp) (g:Dt→Dt→Option Bool):Prop where
 ex:∃ r,OpR X (compareOp op) r∧KS X.K r g
theorem Zl:Cmp X .Lt (cI fun i j=>decide (i < j)):=⟨_,op_lt,Qw⟩
theorem KR:Cmp X .Gt (cI fun i j=>decide (j < i)):=⟨_,op_gt,Qw⟩
theorem Z7:Cmp X .GtE (cI fun i j=>decide (j≤i)):=⟨_,op_ge,Qw⟩
theorem DW(hu:X.A.units + 64 < cLine):Cmp X .Eq Fb:=⟨_,op_eq.or (op_eqD hu),KS.or WU Wr⟩
def Jr(a b:Dt):Option Bool:=(CY Y7 a b).orElse fun _=>CY Sj a b
theorem Yh(a b:Dt):Jr a b=CY Fb a b:=by
 show ((Y7 a b).map (fun x=>!x)).orElse (fun _=>(Sj a b).map fun x=>!x)=((Y7 a b).orElse fun _=>Sj a b).map fun x=>!x
 cases Y7 a b <;> rfl
theorem K1(hu:X.A.units + 64 < cLine):Cmp X .NotEq Jr:=⟨_,op_ne.or (op_neD hu),KS.or WO Xk⟩
theorem Qx:Cmp X .Is XW:=⟨_,op_isN,VJ⟩
theorem CK{op:CmpOp}{g:Dt→Dt→Option Bool}(h:Cmp X op g)(ha:Bp X W a fa la)(hb:Bp X W b fb lb)(hm:behindInMarks op b=false:=by first | exact nomark _ | rfl):TQ X W (.Compare a [op] [b] pos) (t2 fa fb g) []:=by
 obtain ⟨r,h1,h2⟩:=h.ex
 exact aq h1 h2 ha hb hm
theorem Wg{op:CmpOp}{g:Dt→Dt→Option Bool}(h:Cmp X op g)(ha:Bp X W a fa la)(hb:Bp X W b fb lb)(hm:behindInMarks op b=false:=by first | exact nomark _ | rfl):Bp X W (.Compare a [op] [b] pos) (eT (t2 fa fb g)) []:=by
 obtain ⟨r,h1,h2⟩:=h.ex
 exact ZT h1 h2 ha hb hm
theorem GF(ha:TQ X W a ft la):YH X W (.BoolOp .And [a] pos) ft la:=by
 obtain ⟨ta,pa,da⟩:=ha
 exact ⟨_,pw_and1 pa,da⟩
theorem FH(ha:TQ X W a ft la):YH X W (.BoolOp .Or [a] pos) ft la:=by
 obtain ⟨ta,pa,da⟩:=ha
 exact ⟨_,pw_or1 pa,da⟩
theorem IJ(ha:TQ X W a ft la)(hb:YH X W (.BoolOp .And (b :: rest) pos) fu lb):YH X W (.BoolOp .And (a :: b :: rest) pos) (CH ft fu) []:=by
 obtain ⟨ta,pa,da⟩:=ha
 obtain ⟨tb,pb,db⟩:=hb
 exact ⟨_,pw_and pa pb,WK da db⟩
theorem GR(ha:TQ X W a ft la)(hb:YH X W (.BoolOp .Or (b :: rest) pos) fu lb):YH X W (.BoolOp .Or (a :: b :: rest) pos) (CT ft fu) []:=by
 obtain ⟨ta,pa,da⟩:=ha
 obtain ⟨tb,pb,db⟩:=hb
 exact ⟨_,pw_or pa pb,Y4 da db⟩
theorem TK(ha:YH X W e ft la):TQ X W e ft la:=by
 obtain ⟨ta,pa,da⟩:=ha
 exact ⟨_,pa.pt,da⟩
theorem Ea(ha:TQ X W a ft la):TQ X W (.UnaryOp .Not a pos) (Bw ft) []:=by
 obtain ⟨ta,pa,da⟩:=ha
 exact ⟨_,pt_not pa,VD da⟩
def XQ:Dt→Option Bool
 | .bl b=>some b
 | _=>none
@[simp] theorem Lg(b:Bool):XQ (.bl b)=some b:=rfl
def FQ(f g:Env→Out Dt):Env→Out Dt:=fun ρ=>(f ρ).bind fun a=>(DY (XQ a)).bind fun b=>if b=true then g ρ else .ok (.bl false)
def Oi(f:Env→Out Dt):Env→Out Dt:=fun ρ=>(f ρ).bind fun a=>(DY (XQ a)).bind fun b=>.ok (.bl (!b))
theorem Wi{a:Dt}{b:Bool}(h:XQ a=some b):a=.bl b:=by
 cases a <;> try (cases h; done)
 cases h
 rfl
theorem Kz{op:BoolOp}(ha:Bp X W a fa la):Bp X W (.BoolOp op [a] pos) fa la:=by
 obtain ⟨ta,pa,da⟩:=ha
 exact ⟨_,pe_one pa,da⟩
theorem T2{K:PySem.W.Frag}{H:Hp}{σ:L2.St}{a:Dt}{k:Bool→Out Dt}{R:Dt→Prop}(h:Ce K W H σ ((DY (XQ a)).bind k) R):∃ b,a=.bl b∧Ce K W H σ (k b) R:=by
 cases e:XQ a with
 | none=>rw [e] at h; exact False.elim h
 | some b=>rw [e] at h; exact ⟨b,Wi e,h⟩
theorem FL(ha:Bp X W a fa la)(hb:Bp X W (.BoolOp .And (b :: rest) pos) fb lb):Bp X W (.BoolOp .And (a :: b :: rest) pos) (FQ fa fb) lb:=by
 obtain ⟨ta,pa,da⟩:=ha
 obtain ⟨tb,pb,db⟩:=hb
 refine ⟨_,pe_and pa pb,?_⟩
 intro μ H0 A0 ρ σ H Q s h
 refine da _ _ _ _ _ _ _ s (h.seq fun a _ h1 v1 H1 s1 r1=>?_)
 obtain ⟨b,rfl,h2⟩:=T2 h1
 refine ⟨b,r1,?_⟩
 cases b with
 | true=>exact db _ _ _ _ _ _ _ (s.grow s1) ((h2.grow s1).imp fun d _ q=>RE.grow s1 q)
 | false=>exact h2 _ H1 s1 rfl
theorem NO(ha:Bp X W a fa la):Bp X W (.UnaryOp .Not a pos) (Oi fa) []:=by
 obtain ⟨ta,pa,da⟩:=ha
 refine ⟨_,pe_not pa,?_⟩
 intro μ H0 A0 ρ σ H Q s h
 refine da _ _ _ _ _ _ _ s (h.seq fun a _ h1 v1 H1 s1 r1=>?_)
 obtain ⟨b,rfl,h2⟩:=T2 h1
 exact ⟨b,r1,h2 _ H1 s1 rfl⟩
def BN:Dt→Option Bool
 | .non=>some false
 | .bl b=>some b
 | .int i=>some (i != 0)
 | .str s=>if s.length≤16777216 then some ((s.length:Int) != 0) else none
 | .tup ds=>some (!ds.isEmpty)
 | .ptp ds=>some (!ds.isEmpty)
 | .lst ds=>some (!ds.isEmpty)
 | .fls ds=>some (!ds.isEmpty)
 | _=>none
@[simp] theorem Ic(b:Bool):BN (.bl b)=some b:=rfl
theorem EW{α β:Type}{xs:List α}{ys:List β}(h:xs.length=ys.length):xs.isEmpty=ys.isEmpty:=by
 cases xs <;> cases ys <;> first | rfl | (simp at h)
theorem RS{K:KM}{H:Hp}{A:Ad}{d:Dt}{v:V}{k:Bool}(r:Rep K H A d v)(h:BN d=some k):TruV K.K v H k:=by
 cases d with
 | non=>have e:v=.non:=r; subst e; cases h; rfl
 | bl b=>have e:v=.bl b:=r; subst e; cases h; rfl
 | int i=>have e:v=.int i:=r; subst e; cases h; rfl
 | str s=>
  have e:v=.str s:=r
  subst e
  obtain ⟨h1,rfl⟩:=AX h
  exact ⟨by rw [sizeLine_eq]; exact h1,rfl⟩
 | ty _=>cases h
 | cls _=>cases h
 | ad _=>cases h
 | dit _ _=>cases h
 | obj _ _ _=>cases h
 | exn _ _ _ _ _=>cases h
 | tup ds=>
  unfold Rep at r
  obtain ⟨a,vs,rfl,h1,h2⟩:=r
  cases h
  exact .inr (.inl ⟨vs,SqT.TH h1,by rw [EW h2.length]⟩)
 | ntp ds=>cases h
 | ptp ds=>
  unfold Rep at r
  obtain ⟨a,vs,rfl,⟨_,o,h1,_⟩,h2⟩:=r
  cases h
  exact .inr (.inl ⟨vs,.inl (.inr ⟨o,h1⟩),by rw [EW h2.length]⟩)
 | lst ds=>
  unfold Rep at r
  obtain ⟨a,vs,rfl,_,h1,h2⟩:=r
  cases h
  exact .inl ⟨vs,SqL.of h1,by rw [EW h2.length]⟩
 | fls ds=>
  unfold Rep at r
  obtain ⟨a,vs,rfl,h1,h2⟩:=r
  cases h
  refine .inl ⟨vs,?_,by rw [EW h2.length]⟩
  rcases h1 with ⟨_,o,h1⟩ | h1
  ·exact .inl (.inr ⟨o,h1⟩)
  ·exact .inr h1
 | dic ks ds=>cases h
theorem Ka(ha:Bp X W a fa la)(he:∀ whole,isTrue a X.env whole=(do let v ← whole; standAt a.pos; holding [v] (truthy v)):=by intro _; rfl):TQ X W a (t1 fa BN) []:=by
 obtain ⟨ta,pa,da⟩:=ha
 refine ⟨_,pt_truth pa he,?_⟩
 intro μ H0 A0 ρ σ H Q s h
 refine da _ _ _ _ _ _ _ s (h.seq fun a _ h1 v1 H1 s1 r1=>?_)
 obtain ⟨k,e,q⟩:=Bt h1
 exact ⟨k,RS r1 e,q H1 s1⟩
variable {es:List Expr} {fs:Env→Out (List Dt)} {ls:List Nat}
theorem Af:JR X W [] Ah []:=⟨_,pa_nil,RG⟩
theorem Ac(ha:Bp X W e fa la)(hr:JR X W es fs lb)(hs:starEach (e :: es) X.env=(false,eval e X.env) :: starEach es X.env:=by rfl):JR X W (e :: es) (Aa fa fs) (la ++ lb):=by
 obtain ⟨ta,pa,da⟩:=ha
 obtain ⟨tr,pr,dr⟩:=hr
 exact ⟨_,pa_cons pa pr hs,Uc da dr⟩
theorem FC{k}(h:JR X W es fs ls):Bp X W (.Tuple es k pos) (Jo fs) ls:=by
 obtain ⟨ta,pa,da⟩:=h
 exact ⟨_,pe_tup pa,V8 da⟩
theorem D0(h:JR X W es fs ls):Ts X W (.List es pos) (FZ fs) ls:=by
 obtain ⟨ta,pa,da⟩:=h
 exact ⟨_,pe_lst pa,Wv da⟩
theorem CI(h:Ts X W e fs ls):Bp X W e (eL fs) ls:=by
 obtain ⟨ta,pa,da⟩:=h
 exact ⟨_,pa,ZX da⟩
end
end FD
namespace FD
open PySem L2
inductive Fl where
 | nx | bk | ct | rt (d:Dt)
inductive SOut where
 | ok (f:Fl) (ρ:Env) | exc (x:Exn) (ρ:Env) | bad
def F8{α:Type}(o:Out α)(ρ:Env)(k:α→SOut):SOut:=match o with
 | .ok a=>k a
 | .exc x=>.exc x ρ
 | .bad=>.bad
@[simp] theorem Df{α:Type}(a:α)(ρ:Env)(k:α→SOut):F8 (.ok a) ρ k=k a:=rfl
@[simp] theorem HY{α:Type}(x:Exn)(ρ:Env)(k:α→SOut):F8 (.exc x) ρ k=.exc x ρ:=rfl
def AK(K:PySem.W.Frag)(W:WX)(μ0:Mu)(H0:Hp)(A0:Ad)(o:SOut)(D:Ends):Prop:=match o with
 | .ok .nx ρ=>∀ μ σ H,Xt μ0 μ→StOk ⟨K,μ⟩ H0 A0 H ρ σ→D.nx σ H
 | .ok .bk ρ=>∀ μ σ H,Xt μ0 μ→StOk ⟨K,μ⟩ H0 A0 H ρ σ→D.bk σ H
 | .ok .ct ρ=>∀ μ σ H,Xt μ0 μ→StOk ⟨K,μ⟩ H0 A0 H ρ σ→D.ct σ H
 | .ok (.rt d) ρ=>∀ μ v σ H,Xt μ0 μ→StOk ⟨K,μ⟩ H0 A0 H ρ σ→Rep ⟨K,μ⟩ H (Av ⟨K,μ⟩ A0 ρ σ []) d v→D.rt v H
 | .exc x ρ=>∀ μ σ H c od,Xt μ0 μ→StOk ⟨K,μ⟩ H0 A0 H ρ σ→Kb K H x c od→W c od σ H
 | .bad=>False
def F7(K:PySem.W.Frag)(W:WX)(ts:TS)(g:Env→SOut):Prop:=
 ∀ (μ:Mu) (H0:Hp) (A0:Ad) (ρ:Env) (σ:L2.St) (H:Hp) (D:Ends),StOk ⟨K,μ⟩ H0 A0 H ρ σ→AK K W μ H0 A0 (g ρ) D→ts D σ H
def Kd(X:Cx)(W:WX)(st:Stmt)(g:Env→SOut):Prop:=∃ ts,PS X st ts∧F7 X.K W ts g
def F0(X:Cx)(W:WX)(st:List Stmt)(g:Env→SOut):Prop:=∃ ts,PSs X st ts∧F7 X.K W ts g
def Ar:Env→SOut:=fun ρ=>.ok .nx ρ
def SOut.andThen(o:SOut)(g:Env→SOut):SOut:=match o with
 | .ok .nx ρ=>g ρ
 | o=>o
@[simp] theorem DA(ρ:Env)(g:Env→SOut):(SOut.ok .nx ρ).andThen g=g ρ:=rfl
@[simp] theorem Ey(d:Dt)(ρ:Env)(g:Env→SOut):(SOut.ok (.rt d) ρ).andThen g=.ok (.rt d) ρ:=rfl
@[simp] theorem DS(x:Exn)(ρ:Env)(g:Env→SOut):(SOut.exc x ρ).andThen g=.exc x ρ:=rfl
def An(f g:Env→SOut):Env→SOut:=fun ρ=>(f ρ).andThen g
def B2(i:Nat)(f:Env→Out Dt)(lk:List Nat):Env→SOut:=fun ρ=>F8 (f ρ) ρ fun d=>.ok .nx ((AI d lk ρ).set i (some (.sh d)))
def EN(i:Nat)(f:Env→Out (List Dt))(lk:List Nat):Env→SOut:=fun ρ=>F8 (f ρ) ρ fun ds=>.ok .nx ((Mi ds lk ρ).set i (some (.ol ds)))
def Lu(f:Env→Out Dt):Env→SOut:=fun ρ=>F8 (f ρ) ρ fun _=>.ok .nx ρ
def Ax(f:Env→Out Dt)(lk:List Nat):Env→SOut:=fun ρ=>F8 (f ρ) ρ fun d=>.ok (.rt d) (AI d lk ρ)
def BV(c:Env→Out Bool)(f g:Env→SOut):Env→SOut:=fun ρ=>F8 (c ρ) ρ fun b=>if b=true then f ρ else g ρ
def BR(i:Nat)(f:Env→Out Dt)(lk:List Nat):Env→SOut:=fun ρ=>match ρ[i]? with
 | some (some (.ol _))=>F8 (f ρ) ρ fun d=>(match (AI d lk ρ)[i]? with
  | some (some (.ol ds))=>if ds.length < 16777216 then .ok .nx ((AI d lk ρ).set i (some (.ol (ds ++ [d])))) else .bad
  | _=>.bad)
 | _=>.bad
section
variable {K:PySem.W.Frag} {κ:KM} {μ:Mu} {W:WX} {H0 H H1:Hp} {A0:Ad} {ρ:Env} {σ:L2.St} {lk la lb:List Nat} {α:Type}
theorem AK.ext{μ':Mu}{o:SOut}{D:Ends}(x:Xt μ μ')(h:AK K W μ H0 A0 o D):AK K W μ' H0 A0 o D:=by
 cases o with
 | ok f ρ=>
  cases f with
  | nx=>exact fun μ σ H y s=>h μ σ H (x.trans y) s
  | bk=>exact fun μ σ H y s=>h μ σ H (x.trans y) s
  | ct=>exact fun μ σ H y s=>h μ σ H (x.trans y) s
  | rt d=>exact fun μ v σ H y s r=>h μ v σ H (x.trans y) s r
 | exc z ρ=>exact fun μ σ H c od y s r=>h μ σ H c od (x.trans y) s r
 | bad=>exact h
theorem AK.st{o:Out α}{k:α→SOut}{D:Ends}{R:α→Prop}(s:StOk ⟨K,μ⟩ H0 A0 H ρ σ)(h:AK K W μ H0 A0 (F8 o ρ k) D)(hk:∀ a,o=.ok a→AK K W μ H0 A0 (k a) D→R a):Ce K W H σ o R:=by
 cases o with
 | ok a=>exact hk a rfl h
 | exc x=>exact fun c od H' s' r=>h μ σ H' c od (Xt.refl _) (s.grow s') r
 | bad=>exact h
theorem VY{t u:TS}{f g:Env→SOut}(ht:F7 K W t f)(hu:F7 K W u g):F7 K W (tSeq t u) (An f g):=by
 intro μ H0 A0 ρ σ H D s h
 refine ht _ _ _ _ _ _ { D with nx:=u D } s ?_
 unfold An at h
 cases e:f ρ with
 | ok fl ρ'=>
  rw [e] at h
  cases fl with
  | nx=>exact fun μ' σ' H' y s'=>hu _ _ _ _ _ _ _ s' (h.ext y)
  | bk=>exact h
  | ct=>exact h
  | rt d=>exact h
 | exc x ρ'=>rw [e] at h; exact h
 | bad=>rw [e] at h; exact h
theorem UC:F7 K W tNext Ar:=fun μ H0 A0 ρ σ H D s h=>h _ σ H (Xt.refl _) s
theorem V6{te:TE}{f:Env→Out Dt}{i:Nat}(ha:DZ K W te f la):F7 K W (tAsg te (gName i)) (B2 i f la):=by
 intro μ H0 A0 ρ σ H D s h
 exact ha _ _ _ _ _ _ _ s (AK.st s h fun d _ h1 v H1 s1 r1=>h1 _ _ _ (Xt.refl _) (s.give s1 r1))
theorem Pu{te:TE}{f:Env→Out (List Dt)}{i:Nat}(ha:VB K W te f la):F7 K W (tAsg te (gName i)) (EN i f la):=by
 intro μ H0 A0 ρ σ H D s h
 exact ha _ _ _ _ _ _ _ s (AK.st s h fun d _ h1 p vs H1 s1 hp hp' r1=>h1 _ _ _ (Xt.refl _) (s.Xr s1 hp hp' r1))
theorem Va{te:TE}{f:Env→Out Dt}(ha:DZ K W te f la):F7 K W (tDrop te) (Lu f):=by
 intro μ H0 A0 ρ σ H D s h
 exact ha _ _ _ _ _ _ _ s (AK.st s h fun d _ h1 v H1 s1 r1=>h1 _ _ _ (Xt.refl _) (s.grow s1))
theorem Wl{te:TE}{f:Env→Out Dt}(ha:DZ K W te f la):F7 K W (tRet te) (Ax f la):=by
 intro μ H0 A0 ρ σ H D s h
 exact ha _ _ _ _ _ _ _ s (AK.st s h fun d _ h1 v H1 s1 r1=>by
  obtain ⟨s2,r2⟩:=(s.grow s1).O7 r1
  exact h1 _ _ _ _ (Xt.refl _) s2 r2)
theorem Yb{tc:TT}{t u:TS}{c:Env→Out Bool}{f g:Env→SOut}(hc:OU K W tc c la)(ht:F7 K W t f)(hu:F7 K W u g):F7 K W (tIfS tc t u) (BV c f g):=by
 intro μ H0 A0 ρ σ H D s h
 refine hc _ _ _ _ _ _ _ s (AK.st s h fun b _ h1 H1 s1=>?_)
 cases b with
 | true=>exact ht _ _ _ _ _ _ _ (s.grow s1) h1
 | false=>exact hu _ _ _ _ _ _ _ (s.grow s1) h1
theorem fzD(s:StOk κ H0 A0 H ρ σ){d:Dt}{v:V}(hs:Same H H1)(r:Rep κ H1 (Av κ A0 ρ σ lk) d v):StOk κ H0 A0 H1 (AI d lk ρ) σ∧Rep κ H1 (Av κ A0 (AI d lk ρ) σ []) d v:=(s.grow hs).O7 r
theorem Qz{te:TE}{f:Env→Out Dt}{i:Nat}(ha:DZ K W te f la):F7 K W (tDrop (tBM K "list" rAppend (tVar i) (tCons te tNil))) (BR i f la):=by
 intro μ H0 A0 ρ σ H D s h
 unfold BR at h
 split at h
 ·rename_i ds0 e0
  obtain ⟨a,vs,e1,h0,h1,r0⟩:=s.lo i _ e0
  refine ⟨_,e1,.inl ⟨rfl,vs,SqL.of h1⟩,?_⟩
  refine ha _ _ _ _ _ _ _ s (AK.st s h fun d _ h2 v H1 s1 r1=>?_)
  obtain ⟨s2,r2⟩:=fzD s s1 r1
  split at h2
  ·rename_i ds e2
   split at h2
   ·rename_i hl
    obtain ⟨a',vs',e3,h0',h1',r3⟩:=s2.lo i _ e2
    rw [e1] at e3
    cases e3
    refine ⟨a,vs',v,rfl,rfl,h1',by rw [r3.length,sizeLine_eq]; exact hl,?_⟩
    exact h2 _ _ _ (Xt.refl _) (s2.Y1 e2 e1 (Ag.append r3 (Ag.cons r2 Ag.nil)))
   ·exact False.elim h2
  ·exact False.elim h2
 ·exact False.elim h
def Zb(S:List Nat)(ρ ρ':Env)(σ σ':L2.St):Prop:=σ'.length=σ.length∧∀ j,j∉S→σ'[j]? = σ[j]?∧ρ'[j]? = ρ[j]?
def Wb(K:PySem.W.Frag)(g:TG)(u:Dt→Env→Option Env)(S:List Nat):Prop:=
 ∀ (μ:Mu) (H0:Hp) (A0:Ad) (ρ ρ':Env) (σ:L2.St) (H:Hp) (d:Dt) (v:V) (Q:L2.St→Hp→Prop),StOk ⟨K,μ⟩ H0 A0 H ρ σ→Rep ⟨K,μ⟩ H (Av ⟨K,μ⟩ A0 ρ σ []) d v→u d ρ=some ρ' →
  (∀ σ',StOk ⟨K,μ⟩ H0 A0 H ρ' σ'→(∀ a,Av ⟨K,μ⟩ A0 ρ' σ' [] a→Av ⟨K,μ⟩ A0 ρ σ [] a)→Zb S ρ ρ' σ σ'→Q σ' H)→g v σ H Q
def TF(X:Cx)(tg:Expr)(u:Dt→Env→Option Env)(S:List Nat):Prop:=∃ g,PG X tg g∧Wb X.K g u S
def Ak(i:Nat):Dt→Env→Option Env:=fun d ρ=>some (ρ.set i (some (.sh d)))
theorem Vj{i:Nat}:Wb K (gName i) (Ak i) [i]:=by
 intro μ H0 A0 ρ ρ' σ H d v Q s r e q
 cases e
 refine q _ (s.put r) (fun a z=>StOk.ZE z) ⟨by rw [List.length_set],fun j hj=>?_⟩
 have ne:i≠j:=fun z=>hj (by rw [z]; exact List.mem_singleton.mpr rfl)
 exact ⟨List.getElem?_set_ne ne,List.getElem?_set_ne ne⟩
def G8:List Dt→Env→Option Env:=fun ds ρ=>match ds with
 | []=>some ρ
 | _=>none
def BF(u:Dt→Env→Option Env)(us:List Dt→Env→Option Env):List Dt→Env→Option Env:=fun ds ρ=>match ds with
 | d :: ds=>(u d ρ).bind fun ρ'=>us ds ρ'
 | _=>none
def TU(K:PySem.W.Frag)(g:TGs)(us:List Dt→Env→Option Env)(S:List Nat):Prop:=
 ∀ (μ:Mu) (H0:Hp) (A0 A:Ad) (ρ ρ':Env) (σ:L2.St) (H:Hp) (ds:List Dt) (vs:List V) (Q:L2.St→Hp→Prop),StOk ⟨K,μ⟩ H0 A0 H ρ σ→(∀ a,Av ⟨K,μ⟩ A0 ρ σ [] a→A a)→Ag ⟨K,μ⟩ H A ds vs→us ds ρ=some ρ' →
  (∀ σ',StOk ⟨K,μ⟩ H0 A0 H ρ' σ'→(∀ a,Av ⟨K,μ⟩ A0 ρ' σ' [] a→Av ⟨K,μ⟩ A0 ρ σ [] a)→Zb S ρ ρ' σ σ'→Q σ' H)→g vs σ H Q
def VS(X:Cx)(ts:List Expr)(us:List Dt→Env→Option Env)(S:List Nat):Prop:=∃ g,PGs X ts g∧TU X.K g us S
theorem Ui:TU K gNil G8 []:=by
 intro μ H0 A0 A ρ ρ' σ H ds vs Q s ha r e q
 cases ds with
 | nil=>
  cases e
  unfold Ag at r
  exact ⟨r,q σ s (fun a z=>z) ⟨rfl,fun j _=>⟨rfl,rfl⟩⟩⟩
 | cons d ds=>cases e
theorem Tj{g:TG}{gs:TGs}{u:Dt→Env→Option Env}{us:List Dt→Env→Option Env}{S T:List Nat}(h1:Wb K g u S)(h2:TU K gs us T):TU K (gCons g gs) (BF u us) (S ++ T):=by
 intro μ H0 A0 A ρ ρ' σ H ds vs Q s ha r e q
 cases ds with
 | nil=>cases e
 | cons d ds=>
  unfold Ag at r
  obtain ⟨v,t,rfl,r1,r2⟩:=r
  refine ⟨v,t,rfl,?_⟩
  have e':(u d ρ).bind (fun ρ'=>us ds ρ')=some ρ':=e
  cases e1:u d ρ with
  | none=>rw [e1] at e'; cases e'
  | some ρ1=>
   rw [e1] at e'
   refine h1 _ _ _ _ _ _ _ _ _ _ s (r1.Bv ha) e1 fun σ1 s1 m1 o1=>?_
   refine h2 _ _ _ A _ _ _ _ _ _ _ s1 (fun a z=>ha a (m1 a z)) r2 e' fun σ2 s2 m2 o2=>q σ2 s2 (fun a z=>m1 a (m2 a z)) ⟨o2.1.trans o1.1,fun j hj=>?_⟩
   obtain ⟨x1,y1⟩:=o1.2 j fun z=>hj (List.mem_append_left _ z)
   obtain ⟨x2,y2⟩:=o2.2 j fun z=>hj (List.mem_append_right _ z)
   exact ⟨x2.trans x1,y2.trans y1⟩
def Hv(us:List Dt→Env→Option Env):Dt→Env→Option Env:=fun d ρ=>match d with
 | .tup ds=>us ds ρ
 | _=>none
theorem WL{gs:TGs}{us:List Dt→Env→Option Env}{n:Nat}{S:List Nat}(h:TU K gs us S)(hn:∀ ds ρ ρ',us ds ρ=some ρ'→ds.length=n):Wb K (gTup K n gs) (Hv us) S:=by
 intro μ H0 A0 ρ ρ' σ H d v Q s r e q
 cases d <;> try (cases e; done)
 rename_i ds
 unfold Rep at r
 obtain ⟨a,vs,rfl,h1,r⟩:=r
 exact ⟨a,vs,rfl,SqT.TH h1,by rw [r.length]; exact hn _ _ _ e,h _ _ _ _ _ _ _ _ _ _ _ s (fun a z=>z) r e q⟩
end
end FD
namespace FD
open PySem L2
def Ow(κ:KM)(ρ:Env)(σ:L2.St)(lk:List Nat):Ad:=fun a=>∃ i,i∉lk∧AH κ ρ σ i a
open Classical in
noncomputable def Bs(κ:KM)(H:Hp)(ρ:Env)(σ:L2.St)(lk:List Nat):Hp:=fun a=>if Ow κ ρ σ lk a then none else H a
section
variable {K:PySem.W.Frag} {κ:KM} {μ:Mu} {W:WX} {H0 H0' H H1:Hp} {A0:Ad} {ρ:Env} {σ:L2.St} {lk la lb:List Nat} {α:Type}
theorem F1{a:Addr}(h:¬ Ow κ ρ σ lk a):Bs κ H ρ σ lk a=H a:=by unfold Bs; rw [if_neg h]
theorem Q9{a:Addr}(h:Ow κ ρ σ lk a):Bs κ H ρ σ lk a=none:=by unfold Bs; rw [if_pos h]
theorem Kq:Same (Bs κ H ρ σ lk) H:=fun a o e=>by
 unfold Bs at e
 split at e
 ·cases e
 ·exact e
theorem StOk.RV(s:StOk κ H0 A0 H ρ σ){a:Addr}(h:Ow κ ρ σ lk a):H0 a=none:=by
 obtain ⟨i,_,h⟩:=h
 exact (s.BW h).2
theorem StOk.rebase(s:StOk κ H0 A0 H ρ σ)(hs:Same H H1)(lk:List Nat):StOk κ (Bs κ H1 ρ σ lk) A0 H1 (frz lk ρ) σ∧Same H0 (Bs κ H1 ρ σ lk):=by
 have s1:=s.grow hs
 obtain ⟨s2,h2⟩:=s1.fz lk
 have nA:∀ a,A0 a→¬ Ow κ ρ σ lk a:=fun a z q=>by
  have q1:=s.a0 a z
  rw [s.RV q] at q1
  exact q1
 have own:∀ i l a,(frz lk ρ)[i]? = some (some l)→Bq κ l σ[i]? a→H0 a=none→Bs κ H1 ρ σ lk a=none:=fun i l a e ho h0=>by
  have q:=h2 [] a (.inr ⟨i,(fun z=>nomatch z),l,e,ho⟩)
  rw [List.append_nil] at q
  rcases q with q | q
  ·have q1:=s.a0 a q
   rw [h0] at q1
   exact False.elim q1
  ·exact Q9 q
 refine ⟨⟨Kq,fun a z=>?_,s2.len,fun i l e=>CW.gen (F:=κ.K) (m:=κ.mu) (m':=κ.mu) (Xt.refl _) (fun _=>rfl) (fun _ _ _ q=>q) (fun _ z=>.inl z) (fun _ _ _ q=>q) (fun a ho h0=>own i l a e ho h0) (s2.lo i l e),s2.ap,s2.one,s2.nm⟩,fun a o e=>?_⟩
 ·rw [F1 (nA a z)]
  exact s1.Ez (lk:=[]) (.inl z)
 ·rw [F1 fun q=>by rw [s.RV q] at e; cases e]
  exact s1.same a o e
theorem StOk.weaken(h0:Same H0 H0')(ha:∀ a,A0 a→Mut (H0 a))(s:StOk κ H0' A0 H ρ σ):StOk κ H0 A0 H ρ σ:=
 ⟨h0.trans s.same,ha,s.len,fun i l e=>CW.gen (F:=κ.K) (m:=κ.mu) (m':=κ.mu) (Xt.refl _) (fun _=>rfl) (fun _ _ _ q=>q) (fun _ z=>.inl z) (fun _ _ _ q=>q) (fun a _ z=>h0.free z) (s.lo i l e),s.ap,s.one,s.nm⟩
theorem AK.weaken{o:SOut}{D:Ends}(h0:Same H0 H0')(ha:∀ a,A0 a→Mut (H0 a))(h:AK K W μ H0 A0 o D):AK K W μ H0' A0 o D:=by
 cases o with
 | ok f ρ=>
  cases f with
  | nx=>exact fun μ σ H y s=>h μ σ H y (s.weaken h0 ha)
  | bk=>exact fun μ σ H y s=>h μ σ H y (s.weaken h0 ha)
  | ct=>exact fun μ σ H y s=>h μ σ H y (s.weaken h0 ha)
  | rt d=>exact fun μ v σ H y s r=>h μ v σ H y (s.weaken h0 ha) r
 | exc x ρ=>exact fun μ σ H c od y s r=>h μ σ H c od y (s.weaken h0 ha) r
 | bad=>exact h
structure Walks (κ:KM) (B:Hp) (A0:Ad) (J:It) (ds:List Dt):Prop where
 go:∀ i H,Same B H→i < ds.length→J.go i H
 stop:∀ H,Same B H→J.stop ds.length H
 yld:∀ (i:Nat) (H:Hp) (x:V) (H':Hp) (d:Dt),Same B H→J.yld i H x H'→ds[i]? = some d→Same H H'∧∀ A:Ad,(∀ a,A a→(A0 a∨B a=none)∧H a≠none)→Rep κ H' A d x
def XH(K:PySem.W.Frag)(W:WX)(wi:TI)(f:Env→Out (List Dt))(lk:List Nat):Prop:=
 ∀ (μ:Mu) (H0:Hp) (A0:Ad) (ρ:Env) (σ:L2.St) (H:Hp) (R:It→Hp→Prop),StOk ⟨K,μ⟩ H0 A0 H ρ σ→Ce K W H σ (f ρ) (fun ds=>∀ J H1,Same H H1→Walks ⟨K,μ⟩ (Bs ⟨K,μ⟩ H1 ρ σ lk) A0 J ds→R J H1)→wi σ H R
def Zg(X:Cx)(W:WX)(tg iter:Expr)(f:Env→Out (List Dt))(lk:List Nat):Prop:=∃ wi,PI X tg iter wi∧XH X.K W wi f lk
def BK(u:Dt→Env→Option Env)(b:Env→SOut):List Dt→Env→SOut
 | [],ρ=>.ok .nx ρ
 | d :: ds,ρ=>match u d ρ with
  | none=>.bad
  | some ρ1=>match b ρ1 with
   | .ok .nx ρ'=>BK u b ds ρ'
   | .ok .ct ρ'=>BK u b ds ρ'
   | .ok .bk ρ'=>.ok .nx ρ'
   | o=>o
theorem Nb(u:Dt→Env→Option Env)(b:Env→SOut)(d:Dt)(ds:List Dt)(ρ:Env):BK u b (d :: ds) ρ=match u d ρ with
  | none=>.bad
  | some ρ1=>match b ρ1 with
   | .ok .nx ρ'=>BK u b ds ρ'
   | .ok .ct ρ'=>BK u b ds ρ'
   | .ok .bk ρ'=>.ok .nx ρ'
   | o=>o:=rfl
def Bj(u:Dt→Env→Option Env)(f:Env→Out (List Dt))(lk:List Nat)(b:Env→SOut):Env→SOut:=fun ρ=>F8 (f ρ) ρ fun ds=>BK u b ds (frz lk ρ)
theorem Oa{wi:TI}{g:TG}{tb:TS}{u:Dt→Env→Option Env}{f:Env→Out (List Dt)}{b:Env→SOut}{S:List Nat}(hi:XH K W wi f lk)(hg:Wb K g u S)(hb:F7 K W tb b):F7 K W (tFor wi g tb) (Bj u f lk b):=by
 intro μ H0 A0 ρ σ H D s h
 refine hi _ _ _ _ _ _ _ s (AK.st s h fun ds _ h1 J H1 s1 w=>?_)
 obtain ⟨sB,hB⟩:=s.rebase s1 lk
 have h2:=h1.weaken hB s.a0
 refine ⟨fun i m σ' H'=>m + i=ds.length∧∃ μ' ρ',Xt μ μ'∧StOk ⟨K,μ'⟩ (Bs ⟨K,μ⟩ H1 ρ σ lk) A0 H' ρ' σ'∧AK K W μ' (Bs ⟨K,μ⟩ H1 ρ σ lk) A0 (BK u b (ds.drop i) ρ') D,⟨ds.length,by omega,_,_,Xt.refl _,sB,h2⟩,?_⟩
 rintro i m σ2 H2 ⟨hm,μ2,ρ2,x2,s2,h3⟩
 by_cases hlt:i < ds.length
 ·have hd:ds.drop i=ds[i] :: ds.drop (i + 1):=List.drop_eq_getElem_cons hlt
  rw [hd,Nb] at h3
  refine .inr ⟨w.go i H2 s2.same hlt,fun σ' H'=>∃ μ' ρ',Xt μ μ'∧StOk ⟨K,μ'⟩ (Bs ⟨K,μ⟩ H1 ρ σ lk) A0 H' ρ' σ'∧AK K W μ' (Bs ⟨K,μ⟩ H1 ρ σ lk) A0 (BK u b (ds.drop (i + 1)) ρ') D,fun σ' H' q=>⟨m - 1,by omega,by omega,q⟩,fun x H3 y=>?_⟩
  obtain ⟨s3,r3⟩:=w.yld i H2 x H3 ds[i] s2.same y (List.getElem?_eq_getElem hlt)
  have r4:Rep ⟨K,μ2⟩ H3 (Av ⟨K,μ2⟩ A0 ρ2 σ2 []) ds[i] x:=Rep.ext x2 <| r3 _ fun a z=>⟨z.elim .inl fun z=>.inr (s2.RV (lk:=[]) z),s2.Hq z⟩
  split at h3
  ·exact False.elim h3
  ·rename_i ρ3 e3
   refine hg _ _ _ _ _ _ _ _ _ _ (s2.grow s3) r4 e3 fun σ4 s4 _ _=>?_
   refine hb _ _ _ _ _ _ _ s4 ?_
   cases e:b ρ3 with
   | ok fl ρ'=>
    rw [e] at h3
    cases fl with
    | nx=>exact fun μ' σ' H' y s'=>⟨μ',ρ',x2.trans y,s',h3.ext y⟩
    | ct=>exact fun μ' σ' H' y s'=>⟨μ',ρ',x2.trans y,s',h3.ext y⟩
    | bk=>exact fun μ' σ' H' y s'=>h3 μ' σ' H' y s'
    | rt d=>exact h3
   | exc x ρ'=>rw [e] at h3; exact h3
   | bad=>rw [e] at h3; exact h3
 ·have e:i=ds.length:=by omega
  subst e
  rw [List.drop_length] at h3
  exact .inl ⟨w.stop H2 s2.same,h3 _ σ2 H2 (Xt.refl _) s2⟩
def Dt.seq:Dt→Option (List Dt)
 | .tup ds=>some ds
 | .ptp ds=>some ds
 | .lst ds=>some ds
 | .fls ds=>some ds
 | .str s=>some (s.cps.toList.map fun c=>.str ⟨#[c]⟩)
 | _=>none
@[simp] theorem Dt.IG(ds:List Dt):(Dt.lst ds).seq=some ds:=rfl
def AO(f:Env→Out Dt):Env→Out (List Dt):=fun ρ=>(f ρ).bind fun d=>DY d.seq
def ao(K:PySem.W.Frag)(tl:TE):TI:=fun σ H R=>tl σ H fun x H1=>(∃ a,x=.ref a∧(∃ xs,SqL K H1 a xs)∧R (Itl K a) H1)∨(∃ a,x=.ref a∧(∃ xs,SqT K H1 a xs)∧R (Itt K a) H1)∨∃ z,x=.str z∧R (Its z) H1
theorem Rep.later{B:Hp}(hs:Same B H){d:Dt}{v:V}(r:Rep κ B A0 d v){A:Ad}(ha:∀ a,A a→A0 a∨B a=none):Rep κ H A d v:=by
 refine Rep.mono (H:=B) (A:=fun a=>A a∨A0 a) (fun a o _ e=>hs a o e) (fun a z=>.inl z) d v ?_
 -- all addresses that r uses stand in B
 refine Rep.Bv (A:=fun a=>A0 a∨B a=none) (fun a z=>z.elim (fun z=>ha a z) .inl) ?_
 exact Rep.DL _ _ r
theorem Rep.Ze{d:Dt}{v:V}(r:Rep κ H (Av κ A0 ρ σ lk) d v):Rep κ (Bs κ H ρ σ lk) A0 d v:=
 Rep.mono (fun a o n e=>by rw [F1 fun q=>n (.inr q)]; exact e) (fun a z=>.inl z) d v r
theorem JB{a:Addr}{vs:List V}{ds:List Dt}{B:Hp}(hl:∀ H',Same B H'→SqL K H' a vs)(r:Ag κ B A0 ds vs):Walks κ B A0 (Itl K a) ds where
 go:=fun i H hs hi=>⟨vs,vs[i]'(by rw [r.length]; exact hi),hl H hs,List.getElem?_eq_getElem _⟩
 stop:=fun H hs=>⟨vs,hl H hs,by rw [r.length]; exact Nat.le_refl _⟩
 yld:=fun i H x H' d hs y e=>by
  obtain ⟨rfl,y⟩:=y
  have q:=y vs (hl _ hs)
  obtain ⟨v,e1,r1⟩:=r.get e
  rw [q] at e1
  cases e1
  exact ⟨Same.refl _,fun A ha=>Rep.later hs r1 fun a z=>(ha a z).1⟩
theorem ML{a:Addr}{vs:List V}{ds:List Dt}{B:Hp}(hl:∀ H',Same B H'→SqT K H' a vs)(r:Ag κ B A0 ds vs):Walks κ B A0 (Itt K a) ds where
 go:=fun i H hs hi=>⟨vs,vs[i]'(by rw [r.length]; exact hi),hl H hs,List.getElem?_eq_getElem _⟩
 stop:=fun H hs=>⟨vs,hl H hs,by rw [r.length]; exact Nat.le_refl _⟩
 yld:=fun i H x H' d hs y e=>by
  obtain ⟨rfl,y⟩:=y
  have q:=y vs (hl _ hs)
  obtain ⟨v,e1,r1⟩:=r.get e
  rw [q] at e1
  cases e1
  exact ⟨Same.refl _,fun A ha=>Rep.later hs r1 fun a z=>(ha a z).1⟩
theorem Ag.Ze{ds:List Dt}{vs:List V}(r:Ag κ H (Av κ A0 ρ σ lk) ds vs):Ag κ (Bs κ H ρ σ lk) A0 ds vs:=
 Ag.mono (fun a o n e=>by rw [F1 fun q=>n (.inr q)]; exact e) (fun a z=>.inl z) ds vs r
theorem VH{tl:TE}{f:Env→Out Dt}(ha:DZ K W tl f lk):XH K W (ao K tl) (AO f) lk:=by
 intro μ H0 A0 ρ σ H R s h
 unfold AO at h
 refine ha _ _ _ _ _ _ _ s (h.seq fun d _ h1 v H1 s1 r1=>?_)
 obtain ⟨ds,e,q⟩:=Bt h1
 cases d <;> try (cases e; done)
 ·rename_i z _
  cases e
  have e1:v=.str z:=r1
  subst e1
  refine .inr (.inr ⟨z,rfl,q _ _ s1 ⟨fun i H' _ hi=>?_,fun H' _=>?_,fun i H' x H'' d hs y e=>?_⟩⟩)
  ·simpa [Its] using hi
  ·simp [Its]
  ·obtain ⟨rfl,c,e1,rfl⟩:=y
   refine ⟨Same.refl _,fun A _=>?_⟩
   rw [List.getElem?_map] at e
   have e2:z.cps.toList[i]? = some c:=by simpa using e1
   rw [e2] at e
   cases e
   rfl
 ·rename_i es _
  cases e
  unfold Rep at r1
  obtain ⟨a,vs,rfl,h1',r⟩:=r1
  have hl:∀ H',Same (Bs ⟨K,μ⟩ H1 ρ σ lk) H'→SqT K H' a vs:=fun H' hs=>by
   rcases h1' with ⟨n,e⟩ | h
   ·exact SqT.of (hs _ _ (by rw [F1 fun q=>n (.inr q)]; exact e))
   ·exact .inr h
  exact .inr (.inl ⟨a,rfl,⟨vs,SqT.TH h1'⟩,q _ _ s1 (ML hl r.Ze)⟩)
 ·rename_i es _
  cases e
  unfold Rep at r1
  obtain ⟨a,vs,rfl,⟨n,o,e,_⟩,r⟩:=r1
  have hl:∀ H',Same (Bs ⟨K,μ⟩ H1 ρ σ lk) H'→SqT K H' a vs:=fun H' hs=>.inl (.inr ⟨o,hs _ _ (by rw [F1 fun q=>n (.inr q)]; exact e)⟩)
  exact .inr (.inl ⟨a,rfl,⟨vs,.inl (.inr ⟨o,e⟩)⟩,q _ _ s1 (ML hl r.Ze)⟩)
 ·rename_i es _
  cases e
  unfold Rep at r1
  obtain ⟨a,vs,rfl,n,e,r⟩:=r1
  have hB:Bs ⟨K,μ⟩ H1 ρ σ lk a=some (.lst vs):=by rw [F1 fun q=>n (.inr q)]; exact e
  exact .inl ⟨a,rfl,⟨vs,SqL.of e⟩,q _ _ s1 (JB (fun H' hs=>SqL.of (hs _ _ hB)) r.Ze)⟩
 ·rename_i es _
  cases e
  unfold Rep at r1
  obtain ⟨a,vs,rfl,h1',r⟩:=r1
  have hl:∀ H',Same (Bs ⟨K,μ⟩ H1 ρ σ lk) H'→SqL K H' a vs:=fun H' hs=>by
   rcases h1' with ⟨n,o,e⟩ | h
   ·exact .inl (.inr ⟨o,hs _ _ (by rw [F1 fun q=>n (.inr q)]; exact e)⟩)
   ·exact .inr h
  exact .inl ⟨a,rfl,⟨vs,hl H1 Kq⟩,q _ _ s1 (JB hl r.Ze)⟩
def Ib(lo:Int)(n:Nat):List Dt:=(List.range n).map fun (k:Nat)=>Dt.int (lo + (k:Int))
theorem GO(lo:Int)(n:Nat):(Ib lo n).length=n:=by unfold Ib; simp
def Dz(i:Int):Bool:=decide (-(2 ^ 62)≤i∧i < 2 ^ 62)
def YW:List Dt→Option (List Dt)
 | [.int j]=>if Dz j=true then some (Ib 0 j.toNat) else none
 | [.int i,.int j]=>if Dz i=true∧Dz j=true then some (Ib i (j - i).toNat) else none
 | _=>none
@[simp] theorem Hn(j:Int):YW [.int j]=if Dz j=true then some (Ib 0 j.toNat) else none:=rfl
def BP(f:Env→Out (List Dt)):Env→Out (List Dt):=fun ρ=>(f ρ).bind fun ds=>DY (YW ds)
theorem S0(lo:Int)(n:Nat)(B:Hp):Walks κ B A0 (Itr lo n) (Ib lo n) where
 go:=fun i H _ hi=>by rw [GO] at hi; exact hi
 stop:=fun H _=>by rw [GO]; exact Nat.le_refl n
 yld:=fun i H x H' d _ y e=>by
  obtain ⟨rfl,rfl⟩:=y
  refine ⟨Same.refl _,fun A _=>?_⟩
  unfold Ib at e
  rw [List.getElem?_map] at e
  cases e1:(List.range n)[i]? with
  | none=>rw [e1] at e; cases e
  | some k=>
   rw [e1] at e
   obtain ⟨_,e2⟩:=List.getElem?_eq_some_iff.mp e1
   rw [List.getElem_range] at e2
   subst e2
   cases e
   rfl
theorem B5{κ:KM}{H:Hp}{A:Ad}{d:Dt}{vs:List V}(r:Ag κ H A [d] vs):∃ v,vs=[v]∧Rep κ H A d v:=by
 unfold Ag at r
 obtain ⟨v,t,rfl,h1,h2⟩:=r
 unfold Ag at h2
 exact ⟨v,by rw [h2],h1⟩
theorem PY{κ:KM}{H:Hp}{A:Ad}{d e:Dt}{vs:List V}(r:Ag κ H A [d,e] vs):∃ v u,vs=[v,u]∧Rep κ H A d v∧Rep κ H A e u:=by
 unfold Ag at r
 obtain ⟨v,t,rfl,h1,h2⟩:=r
 obtain ⟨u,rfl,h3⟩:=B5 h2
 exact ⟨v,u,rfl,h1,h3⟩
theorem QE{i:Int}:Dz i=true ↔ -(2 ^ 62)≤i∧i < 2 ^ 62:=by unfold Dz; exact decide_eq_true_iff
theorem TY{ta:TA}{f:Env→Out (List Dt)}(hn:∀ ρ ds,f ρ=.ok ds→ds.length=1)(ha:Q1 K W ta f lk):XH K W (iRng1 ta) (BP f) []:=by
 intro μ H0 A0 ρ σ H R s h
 unfold BP at h
 refine ha _ _ _ _ _ _ _ s (h.seq fun ds e0 h1 vs H1 s1 r1=>?_)
 obtain ⟨es,e,q⟩:=Bt h1
 match ds,hn ρ ds e0 with
 | [.int j],_=>
  rw [Hn] at e
  obtain ⟨c,rfl⟩:=AX e
  obtain ⟨v,rfl,r⟩:=B5 r1
  have e1:v=.int j:=r
  subst e1
  rw [QE] at c
  exact ⟨j,rfl,c.1,c.2,q _ _ s1 (S0 0 _ _)⟩
 | [.non],_=>cases e
 | [.bl _],_=>cases e
 | [.str _],_=>cases e
 | [.ty _],_=>cases e
 | [.cls _],_=>cases e
 | [.tup _],_=>cases e
 | [.lst _],_=>cases e
 | [.fls _],_=>cases e
 | [.dic _ _],_=>cases e
 | [.obj _ _ _],_=>cases e
 | [.ad _],_=>cases e
 | [.dit _ _],_=>cases e
 | [.exn _ _ _ _ _],_=>cases e
theorem Wq:∀ ρ ds,Ah ρ=.ok ds→ds.length=0:=fun ρ ds h=>by cases h; rfl
theorem UG{n:Nat}{f:Env→Out Dt}{g:Env→Out (List Dt)}(h:∀ ρ ds,g ρ=.ok ds→ds.length=n):∀ ρ ds,Aa f g ρ=.ok ds→ds.length=n + 1:=fun ρ ds e=>by
 obtain ⟨d,_,e1⟩:=Out.L8 e
 obtain ⟨es,e2,e3⟩:=Out.L8 e1
 cases e3
 rw [List.length_cons,h _ _ e2]
end
section
variable {X:Cx} {W:WX} {tg e a b:Expr} {f fa fb:Env→Out Dt} {lk la lb:List Nat} {p pos:Pos}
open PySem.Spec PyProof.Rows in
theorem XZ{l:Expr}{tl:TE}(hl:PE X l tl):PI X tg l (ao X.K tl):=by
 refine ⟨fun pins s σ H R I h=>?_⟩
 refine thn (hl.run pins s σ H _ I h) fun v s1 ⟨x,H1,I1,r1,q1⟩=>?_
 rcases q1 with ⟨a,e,⟨xs,hq⟩,q⟩ | ⟨a,e,⟨xs,hq⟩,q⟩ | ⟨z,e,q⟩
 ·subst e
  cases r1
  obtain ⟨Hw,rv,p,hz⟩:=I1.list hq
  refine wpAny_pyIter_list p.isList ?_
  refine ⟨s1.heap.objs.size,[s1.heap.objs.size],_,_,H1,rfl,I1.kept (t':=s1.toks) fun b o e=>Heap.get?_push_of_some _ e,turn_list a _,⟨_,Heap.get?_push_size _ rfl,rfl,rfl⟩,fun b hb=>?_,q⟩
  have e:b=s1.heap.objs.size:=by simpa using hb
  subst e
  exact I1.fpOk (Nat.le_refl _) (I1.hok.fresh (Nat.le_refl _))
 ·subst e
  cases r1
  obtain ⟨Hw,rv,p,hz⟩:=I1.tuple hq
  refine wpAny_pyIter_tuple (show s1.heap.IsTuple a Hw.toArray from p) ?_
  refine ⟨s1.heap.objs.size,[s1.heap.objs.size],_,_,H1,rfl,I1.kept (t':=s1.toks) fun b o e=>Heap.get?_push_of_some _ e,turn_tuple a _,⟨_,Heap.get?_push_size _ rfl,rfl,rfl⟩,fun b hb=>?_,q⟩
  have e:b=s1.heap.objs.size:=by simpa using hb
  subst e
  exact I1.fpOk (Nat.le_refl _) (I1.hok.fresh (Nat.le_refl _))
 ·subst e
  obtain ⟨t,rfl⟩:=r1
  cases ha:z.cps.all (· < 128)
  ·exact wpAny_pyIter_wide ha (pi_one (tk:=s1.toks) I1 _ (turn_str _ z t "str_iterator" (.inr rfl)) ⟨_,Heap.get?_push_size _ rfl,rfl,rfl⟩ q)
  ·exact wpAny_pyIter_ascii ha (pi_one (tk:=s1.toks) I1 _ (turn_str _ z t "str_ascii_iterator" (.inl rfl)) ⟨_,Heap.get?_push_size _ rfl,rfl,rfl⟩ q)
theorem AS(h:Bp X W e f lk):Zg X W tg e (AO f) lk:=by
 obtain ⟨te,pe,de⟩:=h
 exact ⟨_,XZ pe,VH de⟩
theorem Et(hg:Gl X "range")(hm:X.mg "range" = none)(ha:Bp X W a fa la)(hs:starEach [a] X.env=[(false,eval a X.env)]:=by rfl):Zg X W tg (.Call (.Name "range" p) [a] [] pos) (BP (Aa fa Ah)) []:=by
 obtain ⟨ta,pa,da⟩:=Ac (es:=[]) ha Af hs
 exact ⟨_,pi_range1 hg hm pa hs,TY (UG Wq) da⟩
end
end FD
namespace FD
open PySem L2 PyProof.Rows PySem.Spec
section
variable {X:Cx} {W:WX} {e a b c iter tg:Expr} {f fa fb:Env→Out Dt} {fl:Env→Out (List Dt)} {ft:Env→Out Bool} {lk la lb:List Nat} {pos p:Pos} {st:Stmt} {rest body els:List Stmt} {g h:Env→SOut} {u:Dt→Env→Option Env}
theorem Bu:F0 X W [] Ar:=⟨_,pss_nil,UC⟩
theorem Al(h1:Kd X W st g)(h2:F0 X W rest h):F0 X W (st :: rest) (An g h):=by
 obtain ⟨t,p,d⟩:=h1
 obtain ⟨t',p',d'⟩:=h2
 exact ⟨_,pss_cons p p',VY d d'⟩
theorem Ap(h1:Kd X W st g):F0 X W [st] g:=by
 obtain ⟨t,p,d⟩:=h1
 exact ⟨_,pss_one p,d⟩
theorem AF(h:Bp X W e f lk):Kd X W (.Return (some e) pos) (Ax f lk):=by
 obtain ⟨t,p,d⟩:=h
 exact ⟨_,ps_ret p,Wl d⟩
theorem CJ(hc:TQ X W c ft lk)(ha:F0 X W body g)(hb:F0 X W els h):Kd X W (.If c body els pos) (BV ft g h):=by
 obtain ⟨t,p,d⟩:=hc
 obtain ⟨t1,p1,d1⟩:=ha
 obtain ⟨t2,p2,d2⟩:=hb
 exact ⟨_,ps_if p p1 p2,Yb d d1 d2⟩
theorem Ub(h:Bp X W e f lk)(hs:swapsWith e none pos.line X.env=pure false:=by rfl):Kd X W (.Expr e pos) (Lu f):=by
 obtain ⟨t,p,d⟩:=h
 exact ⟨_,ps_expr p hs,Va d⟩
theorem Cf(i:Nat){x:Str}{pos':Pos}(hN:X.N.Nodup)(h:Bp X W e f lk)(hi:X.N[i]? = some x:=by rfl)(hx:Loc X.env.scope x:=by first | exact Or.inl rfl | exact Or.inr rfl)(hs:swapsWith e (some (.Name x pos')) pos.line X.env=pure false:=by rfl)
  (hf:X.fn x=true∨X.env.scope.names.lookup x=some .local:=by first | exact .inl rfl | exact .inr rfl | assumption):Kd X W (.Assign [.Name x pos'] e pos) (B2 i f lk):=by
 obtain ⟨t,p,d⟩:=h
 exact ⟨_,ps_set hN hi hx p hs hf,V6 d⟩
theorem NH(i:Nat){x:Str}{pos':Pos}(hN:X.N.Nodup)(h:Ts X W e fl lk)(hi:X.N[i]? = some x:=by rfl)(hx:Loc X.env.scope x:=by first | exact Or.inl rfl | exact Or.inr rfl)(hs:swapsWith e (some (.Name x pos')) pos.line X.env=pure false:=by rfl)
  (hf:X.fn x=true∨X.env.scope.names.lookup x=some .local:=by first | exact .inl rfl | exact .inr rfl | assumption):Kd X W (.Assign [.Name x pos'] e pos) (EN i fl lk):=by
 obtain ⟨t,p,d⟩:=h
 exact ⟨_,ps_set hN hi hx p hs hf,Pu d⟩
theorem HU(i:Nat){x:Str}{p1 p2 p3:Pos}(h:Bp X W e f lk)(hN:X.N[i]? = some x:=by rfl)(hv:Vis X.env.scope x:=by first | exact Or.inl rfl | exact Or.inr (Or.inl rfl) | exact Or.inr (Or.inr rfl))(hd:(x == ("__debug__" : Str))=false:=by decide)
  (hcd:(x == ("__classdict__" : Str))=false:=by decide) (hs:starEach [e] X.env=(false,eval e X.env) :: starEach [] X.env:=by rfl) (hbase:attributeBase (.Name x p1) "append" X.env (eval (.Name x p1) X.env)=eval (.Name x p1) X.env:=by rfl)
  (hfew:((backTo p3 (starEach [e] X.env)).all (fun x=>!x.1) && (backToKw p3 (keywordEach [] X.env)).all (fun x=>x.1.isSome)
   && decide (([e]:List Expr).length + ([]:List Keyword).length + (if ([]:List Keyword).isEmpty then 0 else 1) < 30))=true:=by rfl) (hline:(p2.endLine == p3.line)=true:=by rfl) (hsw:swapsWith (.Call (.Attribute (.Name x p1) "append" p2) [e] [] p3) none pos.line X.env=pure false:=by rfl):Kd X W (.Expr (.Call (.Attribute (.Name x p1) "append" p2) [e] [] p3) pos) (BR i f lk):=by
 obtain ⟨t,p,d⟩:=h
 exact ⟨_,ps_expr (pe_bm PySem.F.plainAttrs_list PySem.F.slot_list_append PySem.F.type_list_append mt_append (pe_var hN hv hd hcd) (pa_cons p pa_nil hs) hbase hfew hline hs rfl) hsw,Qz d⟩
theorem Ay(i:Nat){x:Str}(hN:X.N.Nodup)(hi:X.N[i]? = some x:=by rfl)(hx:Loc X.env.scope x:=by first | exact Or.inl rfl | exact Or.inr rfl)(hf:X.fn x=true∨X.env.scope.names.lookup x=some .local:=by first | exact .inl rfl | exact .inr rfl | assumption):TF X (.Name x pos) (Ak i) [i]:=
 ⟨_,pg_name hN hi hx hf,Vj⟩
theorem QX:VS X [] G8 []:=⟨_,pgs_nil,Ui⟩
theorem FI{es:List Expr}{us:List Dt→Env→Option Env}{S T:List Nat}(h1:TF X e u S)(h2:VS X es us T)(hs:(assignEach (e :: es) X.env).map (·.2)=assign e X.env :: (assignEach es X.env).map (·.2):=by rfl):VS X (e :: es) (BF u us) (S ++ T):=by
 obtain ⟨t,p,d⟩:=h1
 obtain ⟨t',p',d'⟩:=h2
 exact ⟨_,pgs_cons p p' hs,Tj d d'⟩
theorem Ld:∀ ds ρ ρ',G8 ds ρ=some ρ'→ds.length=0:=fun ds ρ ρ' h=>by
 cases ds with
 | nil=>rfl
 | cons d ds=>cases h
theorem Dy{us:List Dt→Env→Option Env}{n:Nat}(h:∀ ds ρ ρ',us ds ρ=some ρ'→ds.length=n):∀ ds ρ ρ',BF u us ds ρ=some ρ'→ds.length=n + 1:=fun ds ρ ρ' e=>by
 cases ds with
 | nil=>cases e
 | cons d ds=>
  have e':(u d ρ).bind (fun ρ'=>us ds ρ')=some ρ':=e
  cases e1:u d ρ with
  | none=>rw [e1] at e'; cases e'
  | some ρ1=>
   rw [e1] at e'
   rw [List.length_cons,h _ _ _ e']
theorem T3{es:List Expr}{k n:Nat}{us:List Dt→Env→Option Env}{S:List Nat}(hc:X.calm=true)(h:VS X es us S)(hn:∀ ds ρ ρ',us ds ρ=some ρ'→ds.length=n)(hl:(assignEach es X.env).length=n:=by rfl)(hst:(assignEach es X.env).findIdx? (·.1)=none:=by rfl):
  TF X (.Tuple es k pos) (Hv us) S:=by
 obtain ⟨t,p,d⟩:=h
 exact ⟨_,pg_tup hc p hl hst,WL d hn⟩
theorem Dd{S:List Nat}(hp:PassesOwn (model X.prog X.w) X.A X.env X.xe)(hc:X.calm=true)(hi:Zg X W tg iter fl lk)(hg:TF X tg u S)(hb:F0 X W body g)(hs:∀ x,foldedSetIterable iter X.env x=pure x:=by intro _; rfl):Kd X W (.For tg iter body [] pos) (Bj u fl lk g):=by
 obtain ⟨t,p,d⟩:=hi
 obtain ⟨t',p',d'⟩:=hg
 obtain ⟨t2,p2,d2⟩:=hb
 exact ⟨_,ps_for hp hc p p' p2 hs,Oa d d' d2⟩
end
def Cw(K:PySem.W.Frag)(n:Nat)(φ:List Dt→Out Dt):Sp:=fun vs H Q E=>∃ (ds:List Dt) (A:Ad) (μ:Mu),Ag ⟨K,μ⟩ H A ds vs∧ds.length=n∧(∀ a,A a→Mut (H a))∧match φ ds with
 | .ok d=>∀ v H',Same H H'→Rep ⟨K,μ⟩ H' A d v→Q v H'
 | .exc x=>∀ c od H',Same H H'→Kb K H' x c od→E c od H'
 | .bad=>False
def AR(n:Nat)(g:Env→SOut)(ds:List Dt):Out Dt:=match g (ds.map (fun d=>some (Lo.sh d)) ++ List.replicate (n - ds.length) none) with
 | .ok .nx _=>.ok .non
 | .ok (.rt d) _=>.ok d
 | .exc x _=>.exc x
 | _=>.bad
section
variable {P:Program} {w:World} {K:PySem.W.Frag} {mg:Str→Option Value} {base:Heap} {H:Hp} {A:Ad}
theorem TV{κ:KM}{N:List Str}{ds:List Dt}{vs:List V}(r:Ag κ H A ds vs)(ha:∀ a,A a→Mut (H a)):StOk κ H A H (ds.map (fun d=>some (Lo.sh d)) ++ List.replicate (N.length - ds.length) none) (L2.start N vs):=by
 have cases':∀ (i:Nat) (l:Lo),(ds.map (fun d=>some (Lo.sh d)) ++ List.replicate (N.length - ds.length) none)[i]? = some (some l)→∃ d,ds[i]? = some d∧l=.sh d:=fun i l e=>by
  by_cases h:i < ds.length
  ·rw [List.getElem?_append_left (by simpa using h),List.getElem?_map,List.getElem?_eq_getElem h] at e
   cases e
   exact ⟨_,List.getElem?_eq_getElem h,rfl⟩
  ·rw [List.getElem?_append_right (by simpa using Nat.le_of_not_lt h),List.getElem?_replicate] at e
   split at e <;> cases e
 have own:∀ i a,¬ AH κ (ds.map (fun d=>some (Lo.sh d)) ++ List.replicate (N.length - ds.length) none) (L2.start N vs) i a:=by
  rintro i a ⟨l,e,ho⟩
  obtain ⟨d,_,rfl⟩:=cases' i l e
  exact ho
 have av:∀ lk a,Av κ A (ds.map (fun d=>some (Lo.sh d)) ++ List.replicate (N.length - ds.length) none) (L2.start N vs) lk a→A a:=by
  rintro lk a (z | ⟨i,_,z⟩)
  ·exact z
  ·exact absurd z (own i a)
 refine ⟨Same.refl H,ha,by unfold L2.start; simp [r.length],fun i l e=>?_,fun i j a h=>absurd h (own i a),fun i j cs cs' e=>?_,fun _ i cs e=>?_⟩
 ·obtain ⟨d',e1,rfl⟩:=cases' i _ e
  obtain ⟨v,e3,r3⟩:=r.get e1
  refine ⟨v,?_,r3.Bv fun a z=>av [] a z⟩
  unfold L2.start
  have hi:i < vs.length:=(List.getElem?_eq_some_iff.mp e3).1
  rw [List.getElem?_append_left (by simpa using hi),List.getElem?_map,e3]
  rfl
 ·obtain ⟨d',_,e2⟩:=cases' i _ e
  cases e2
 ·obtain ⟨d',_,e2⟩:=cases' i _ e
  cases e2
theorem TR{N:List Str}{ds:List Dt}{vs:List V}{μ:Mu}{g:Env→SOut}{ts:TS}{Q:VK}{E:XK}(hd:F7 K (fun c d _ H'=>E c d H') ts g)(r:Ag ⟨K,μ⟩ H A ds vs)(ha:∀ a,A a→Mut (H a))
  (h:match AR N.length g ds with
   | .ok d=>∀ v H',Same H H'→Rep ⟨K,μ⟩ H' A d v→Q v H'
   | .exc x=>∀ c od H',Same H H'→Kb K H' x c od→E c od H'
   | .bad=>False) (D:Ends) (hn:∀ σ H',Q .non H'→D.nx σ H') (hr:∀ v H',Q v H'→D.rt v H'):ts D (L2.start N vs) H:=by
 have r':Ag ⟨K,⟨μ.l,true⟩⟩ H A ds vs:=Ag.fx r
 refine hd ⟨μ.l,true⟩ H A _ _ H _ (TV r' ha) ?_
 unfold AR at h
 cases e:g (ds.map (fun d=>some (Lo.sh d)) ++ List.replicate (N.length - ds.length) none) with
 | ok fl ρ=>
  rw [e] at h
  cases fl with
  | nx=>exact fun μ' σ H' y s'=>hn σ H' (h .non H' s'.same rfl)
  | rt d=>
   intro μ' v σ H' y s' r'
   have e:=y.stay rfl
   subst e
   exact hr v H' (h v H' s'.same (Rep.fx (r'.Bv fun a z=>.inl z)))
  | bk=>exact h.elim
  | ct=>exact h.elim
 | exc x ρ=>
  rw [e] at h
  exact fun μ' σ H' c od y s' r'=>h c od H' s'.same r'
 | bad=>rw [e] at h; exact h.elim
structure Cl (P:Program) (w:World) (K:PySem.W.Frag) (mg:Str→Option Value) (base:Heap) (x:Str) (k:Nat) (n:Nat) (dd:List Dt) (φ:List Dt→Out Dt):Prop where
 ex:∃ (f:Addr) (fd:FuncData) (ps:List Str) (ds:List Value) (dvs:List V),FnOk P w K mg base (L2N.CX P w) k f fd ps (Cw K n φ)∧mg x=some (.ref f)∧PySem.W.keepIn K (.ref f)=true∧Binds K fd ps ds∧Vals dvs ds∧∀ κ H A,Ag κ H A dd dvs
end
section
variable {X:Cx} {W:WX} {e:Expr} {es:List Expr} {fs:Env→Out (List Dt)} {lk:List Nat} {p pos:Pos} {φ:List Dt→Out Dt}
def P9(K:PySem.W.Frag)(r:List V→Hp→VK→Prop)(g:List Dt→Option Dt):Prop:=∀ (μ:Mu) (H:Hp) (A:Ad) (ds:List Dt) (d:Dt) (vs:List V) (Q:VK),(∀ c,A c→Mut (H c))→Ag ⟨K,μ⟩ H A ds vs→g ds=some d→RE ⟨K,μ⟩ A H Q d→r vs H Q
def eB(g:List Dt→Option Dt)(f:Env→Out (List Dt)):Env→Out Dt:=fun ρ=>(f ρ).bind fun ds=>DY (g ds)
theorem R8{K:PySem.W.Frag}{ta:TA}{r:List V→Hp→VK→Prop}{g:List Dt→Option Dt}(hr:P9 K r g)(ha:Q1 K W ta fs lk):DZ K W (tCB r ta) (eB g fs) lk:=by
 intro μ H0 A0 ρ σ H Q s h
 refine ha _ _ _ _ _ _ _ s (h.seq fun ds _ h1 vs H1 s1 r1=>?_)
 obtain ⟨d,e,q⟩:=Bt h1
 exact hr _ H1 _ ds d vs Q (fun c z=>(s.grow s1).Ez z) r1 e (RE.grow s1 q)
theorem Ew{K:PySem.W.Frag}{ta:TA}{r:List V→Hp→VK→Prop}{g:List Dt→Option Dt}(hr:P9 K r g)(hg:∀ ds d,g ds=some d→d.scal=true)(ha:Q1 K W ta fs lk):DZ K W (tCB r ta) (eB g fs) []:=by
 intro μ H0 A0 ρ σ H Q s h
 refine ha _ _ _ _ _ _ _ s (h.seq fun ds _ h1 vs H1 s1 r1=>?_)
 obtain ⟨d,e,q⟩:=Bt h1
 exact hr _ H1 TN ds d vs Q (fun c z=>False.elim z) (r1.Bv fun a z=>False.elim z) e fun v H' s' r=>q v H' (s1.trans s') (r.scal (hg _ _ e))
def CaL(K:PySem.W.Frag)(r:List V→Hp→VK→Prop)(g:List Dt→Option (List Dt)):Prop:=∀ (μ:Mu) (H:Hp) (A:Ad) (ds:List Dt) (es:List Dt) (vs:List V) (Q:VK),Ag ⟨K,μ⟩ H A ds vs→g ds=some es→(∀ p us,H p=none→Ag ⟨K,μ⟩ H A es us→Q (.ref p) (upd H p (.lst us)))→r vs H Q
def lB(g:List Dt→Option (List Dt))(f:Env→Out (List Dt)):Env→Out (List Dt):=fun ρ=>(f ρ).bind fun ds=>DY (g ds)
theorem XM{K:PySem.W.Frag}{ta:TA}{r:List V→Hp→VK→Prop}{g:List Dt→Option (List Dt)}(hr:CaL K r g)(ha:Q1 K W ta fs lk):VB K W (tCB r ta) (lB g fs) lk:=by
 intro μ H0 A0 ρ σ H Q s h
 refine ha _ _ _ _ _ _ _ s (h.seq fun ds _ h1 vs H1 s1 r1=>?_)
 obtain ⟨d,e,q⟩:=Bt h1
 exact hr _ H1 _ ds d vs Q r1 e fun p us hp r=>q p us _ (s1.trans (Same.new hp)) (s1.free hp) upd_same ((Ag.fresh hp _ _ r).same (Same.new hp))
def AN:List Dt→Option Dt
 | [.tup ds]=>some (.int ds.length)
 | [.ptp ds]=>some (.int ds.length)
 | [.lst ds]=>some (.int ds.length)
 | [.fls ds]=>some (.int ds.length)
 | [.str s]=>if s.length≤16777216 then some (.int s.length) else none
 | _=>none
@[simp] theorem OZ(ds:List Dt):AN [.tup ds]=some (.int ds.length):=rfl
@[simp] theorem Pz(ds:List Dt):AN [.ptp ds]=some (.int ds.length):=rfl
@[simp] theorem DT(ds:List Dt):AN [.lst ds]=some (.int ds.length):=rfl
@[simp] theorem Ue(ds:List Dt):AN [.fls ds]=some (.int ds.length):=rfl
theorem SqL.Xw{K:PySem.W.Frag}{H:Hp}{A:Ad}{a:Addr}{vs:List V}(h:(¬ A a∧∃ o,H a=some (.frz o (.lst vs)))∨aa K a vs):SqL K H a vs:=by
 rcases h with ⟨_,o,h⟩ | h
 ·exact .inl (.inr ⟨o,h⟩)
 ·exact .inr h
theorem VM{K:PySem.W.Frag}:P9 K (fun xs H Q=>∃ x n,xs=[x]∧LenV K x H n∧Q (.int n) H) AN:=by
 intro μ H A ds d vs Q ha r e q
 unfold AN at e
 split at e
 ·obtain ⟨v,rfl,rr⟩:=B5 r
  cases e
  unfold Rep at rr
  obtain ⟨a,vs,rfl,h1,h2⟩:=rr
  exact ⟨_,vs.length,rfl,.inr ⟨vs,SqT.TH h1,rfl⟩,RE.now q (by rw [h2.length]; rfl)⟩
 ·obtain ⟨v,rfl,rr⟩:=B5 r
  cases e
  unfold Rep at rr
  obtain ⟨a,vs,rfl,⟨_,o,h1,_⟩,h2⟩:=rr
  exact ⟨_,vs.length,rfl,.inr ⟨vs,.inl (.inr ⟨o,h1⟩),rfl⟩,RE.now q (by rw [h2.length]; rfl)⟩
 ·obtain ⟨v,rfl,rr⟩:=B5 r
  cases e
  unfold Rep at rr
  obtain ⟨a,vs,rfl,_,h1,h2⟩:=rr
  exact ⟨_,vs.length,rfl,.inl ⟨vs,SqL.of h1,rfl⟩,RE.now q (by rw [h2.length]; rfl)⟩
 ·obtain ⟨v,rfl,rr⟩:=B5 r
  cases e
  unfold Rep at rr
  obtain ⟨a,vs,rfl,h1,h2⟩:=rr
  exact ⟨_,vs.length,rfl,.inl ⟨vs,SqL.Xw h1,rfl⟩,RE.now q (by rw [h2.length]; rfl)⟩
 ·rename_i s
  obtain ⟨v,rfl,rr⟩:=B5 r
  obtain ⟨h1,rfl⟩:=AX e
  have e1:v=.str s:=rr
  subst e1
  exact ⟨_,s.length,rfl,⟨by rw [sizeLine_eq]; exact h1,rfl⟩,RE.now q rfl⟩
 ·cases e
theorem SW:∀ ds d,AN ds=some d→d.scal=true:=fun ds d e=>by
 unfold AN at e
 split at e
 ·cases e; rfl
 ·cases e; rfl
 ·cases e; rfl
 ·cases e; rfl
 ·obtain ⟨_,rfl⟩:=AX e; rfl
 ·cases e
theorem Cr(hg:Gl X "len")(hm:X.mg "len" = none)(ha:JR X W [e] fs lk)(he:starEach [e] X.env=(false,eval e X.env) :: starEach [] X.env:=by rfl):Bp X W (.Call (.Name "len" p) [e] [] pos) (eB AN fs) []:=by
 obtain ⟨ta,pa,da⟩:=ha
 exact ⟨_,pe_callB call_len hg hm boot_len pa (by decide) (by decide) he rfl,Ew VM SW da⟩
def NZ:List Dt→Option Dt
 | [.int i]=>some (.int (if i < 0 then -i else i))
 | _=>none
@[simp] theorem Gq(i:Int):NZ [.int i]=some (.int (if i < 0 then -i else i)):=rfl
theorem Xo{K:PySem.W.Frag}:P9 K (fun xs H Q=>∃ i,xs=[.int i]∧Q (.int (if i < 0 then -i else i)) H) NZ:=by
 intro μ H A ds d vs Q ha r e q
 unfold NZ at e
 split at e
 ·obtain ⟨v,rfl,rr⟩:=B5 r
  cases e
  have e1:v=.int _:=rr
  subst e1
  exact ⟨_,rfl,RE.now q rfl⟩
 ·cases e
theorem Tz:∀ ds d,NZ ds=some d→d.scal=true:=fun ds d e=>by
 unfold NZ at e
 split at e <;> first | (cases e; rfl) | cases e
theorem YM(hg:Gl X "abs")(hm:X.mg "abs" = none)(ha:JR X W [e] fs lk)(he:starEach [e] X.env=(false,eval e X.env) :: starEach [] X.env:=by rfl):Bp X W (.Call (.Name "abs" p) [e] [] pos) (eB NZ fs) []:=by
 obtain ⟨ta,pa,da⟩:=ha
 exact ⟨_,pe_callB call_abs hg hm PyProof.Rows.boot_abs pa (by decide) (by decide) he rfl,Ew Xo Tz da⟩
def Dt.tyN:Dt→Option String
 | .non=>some "NoneType" | .bl _=>some "bool" | .int _=>some "int" | .str _=>some "str" | .tup _=>some "tuple" | .ptp _=>some "tuple" | .lst _=>some "list" | .dic _ _=>some "dict"
 | _=>none
def Du:List Dt→Option Dt
 | [d,.ty n]=>d.tyN.bind fun t=>(kitB t n).map fun b=>.bl b
 | _=>none
end
end FD
namespace FD
open PySem L2 PyProof.Rows PySem.Spec
def A4:Dt→Dt→Option Dt
 | .tup ds,.int i=>atI ds i
 | .lst ds,.int i=>atI ds i
 | .fls ds,.int i=>atI ds i
 | .str s,.int i=>if s.length≤16777216 then (atI s.cps.toList i).map fun c=>.str ⟨#[c]⟩ else none
 | _,_=>none
@[simp] theorem IA(ds:List Dt)(i:Int):A4 (.tup ds) (.int i)=atI ds i:=rfl
@[simp] theorem Ip(ds:List Dt)(i:Int):A4 (.lst ds) (.int i)=atI ds i:=rfl
@[simp] theorem HS(ds:List Dt)(i:Int):A4 (.fls ds) (.int i)=atI ds i:=rfl
@[simp] theorem Rl(s:Str)(i:Int):A4 (.str s) (.int i)=if s.length≤16777216 then (atI s.cps.toList i).map fun c=>.str ⟨#[c]⟩ else none:=rfl
section
variable {K:PySem.W.Frag} {κ:KM} {μ:Mu} {W:WX} {H0 H H1:Hp} {A A0:Ad} {ρ:Env} {σ:L2.St} {lk la lb:List Nat}
theorem Ag.at{ds:List Dt}{vs:List V}{i:Int}{d:Dt}(r:Ag κ H A ds vs)(e:atI ds i=some d):∃ v,atI vs i=some v∧Rep κ H A d v:=by
 unfold atI at e ⊢
 rw [r.length]
 cases h:ixN ds.length i with
 | none=>rw [h] at e; cases e
 | some j=>
  rw [h] at e
  exact r.get e
theorem NM:MI K (rIx K) A4:=by
 intro μ H A a b d x y Q _ ra rb e q
 cases a <;> cases b <;> try (cases e; done)
 ·rename_i z i
  have e1:x=.str z:=ra
  have e2:y=.int i:=rb
  subst e1 e2
  rw [Rl] at e
  split at e
  ·rename_i hz
   cases h:atI z.cps.toList i with
   | none=>rw [h] at e; cases e
   | some c=>
    rw [h] at e
    cases e
    exact .inr (.inr ⟨z,i,c,rfl,rfl,by rw [sizeLine_eq]; exact hz,h,RE.now q rfl⟩)
  ·cases e
 ·rename_i ds i
  have e2:y=.int i:=rb
  subst e2
  unfold Rep at ra
  obtain ⟨p,vs,rfl,h1,r⟩:=ra
  obtain ⟨v,e1,r1⟩:=r.at (show atI ds i=some d from e)
  exact .inr (.inl ⟨p,vs,i,v,rfl,rfl,SqT.TH h1,e1,RE.now q r1⟩)
 ·rename_i ds i
  have e2:y=.int i:=rb
  subst e2
  unfold Rep at ra
  obtain ⟨p,vs,rfl,_,h1,r⟩:=ra
  obtain ⟨v,e1,r1⟩:=r.at (show atI ds i=some d from e)
  exact .inl ⟨p,vs,i,v,rfl,rfl,SqL.of h1,e1,RE.now q r1⟩
 ·rename_i ds i
  have e2:y=.int i:=rb
  subst e2
  unfold Rep at ra
  obtain ⟨p,vs,rfl,h1,r⟩:=ra
  obtain ⟨v,e1,r1⟩:=r.at (show atI ds i=some d from e)
  exact .inl ⟨p,vs,i,v,rfl,rfl,SqL.Xw h1,e1,RE.now q r1⟩
theorem RP{a b d:Dt}{v:V}(e:A4 a b=some d)(r:Rep κ H A b v){A':Ad}:Rep κ H A' b v:=by
 cases b with
 | int i=>exact r
 | _=>cases a <;> cases e
theorem Rr(i:Nat){tb:TE}{fb:Env→Out Dt}(hb:DZ K W tb fb lb):DZ K W (tOp (rIx K) (tVar i) tb) (e2 (Ab i) fb A4) []:=by
 intro μ H0 A0 ρ σ H Q s h
 unfold e2 Ab at h
 split at h
 ·exact False.elim h
 ·rename_i l hn e
  simp only [Out.AB] at h
  have hmh:l.N8=false:=by cases l with | mh cs=>exact (hn cs rfl).elim | _=>rfl
  obtain ⟨v,e1,r1⟩:=s.val e hmh
  refine ⟨v,e1,?_⟩
  refine hb _ _ _ _ _ _ _ s (h.seq fun b _ h2 v2 H2 s2 r2=>?_)
  obtain ⟨d,e3,q⟩:=Bt h2
  have lo:=s.lo i l e
  cases l with
  | sh d'=>
   obtain ⟨u,e4,r4⟩:=lo
   rw [e1] at e4
   cases e4
   exact NM (K:=K) μ H2 (Av ⟨K,μ⟩ A0 ρ σ []) d' b d v v2 Q (fun c z=>(s.grow s2).Hq z) (r4.same s2) (RP e3 r2) e3 (RE.grow s2 q)
  | ol ds=>
   obtain ⟨a,vs,e4,h0,h1,r4⟩:=lo
   rw [e1] at e4
   cases e4
   cases b <;> try (cases e3; done)
   rename_i k _
   have e5:v2=.int k:=r2
   subst e5
   obtain ⟨w,e6,r6⟩:=(r4.same s2).at (show atI ds k=some d from e3)
   exact .inl ⟨a,vs,k,w,rfl,rfl,SqL.of (s2 _ _ h1),e6,q _ _ s2 r6⟩
  | od ks ds=>cases b <;> cases e3
  | ot ks ds=>cases b <;> cases e3
  | mh cs=>cases hmh
 ·exact False.elim h
def Qh(K:PySem.W.Frag)(W:WX)(to:TO)(f:Env→Out (Option Int)):Prop:=
 ∀ (μ:Mu) (H0:Hp) (A0:Ad) (ρ:Env) (σ:L2.St) (H:Hp) (Q:Option Int→Hp→Prop),StOk ⟨K,μ⟩ H0 A0 H ρ σ→Ce K W H σ (f ρ) (fun o=>∀ H',Same H H'→Q o H')→to σ H Q
def POD(X:Cx)(W:WX)(e:Option Expr)(f:Env→Out (Option Int)):Prop:=∃ to,PO X e to∧Qh X.K W to f
def J6:Env→Out (Option Int):=fun _=>.ok none
def Pt(f:Env→Out Dt):Env→Out (Option Int):=fun ρ=>(f ρ).bind fun d=>match d with
 | .int i=>.ok (some i)
 | _=>.bad
theorem Wd:Qh K W tNoPart J6:=fun μ H0 A0 ρ σ H Q s h=>h H (Same.refl H)
theorem VG{te:TE}{f:Env→Out Dt}(ha:DZ K W te f la):Qh K W (tPart te) (Pt f):=by
 intro μ H0 A0 ρ σ H Q s h
 refine ha _ _ _ _ _ _ _ s (h.seq fun d _ h1 v H1 s1 r1=>?_)
 cases d <;> try (exact False.elim h1)
 exact ⟨_,r1,h1 H1 s1⟩
def cutD(ds:List Dt)(lo hi:Option Int):List Dt:=(ds.drop (HT.sIx ds.length 0 lo)).take (HT.sIx ds.length ds.length hi - HT.sIx ds.length 0 lo)
theorem Ag.cut{ds:List Dt}{vs:List V}{lo hi:Option Int}(r:Ag κ H A ds vs):Ag κ H A (cutD ds lo hi) (cutV vs lo hi):=by
 unfold cutD cutV
 rw [r.length]
 exact Ag.take _ (Ag.drop _ r)
end
section
variable {X:Cx} {W:WX} {e a b c iter tg:Expr} {f fa fb:Env→Out Dt} {lk la lb:List Nat} {pos p p2:Pos} {lo hi:Option Expr} {fl fh:Env→Out (Option Int)}
theorem ZS(ha:Bp X W a fa la)(hb:Bp X W b fb lb)(hs:PlainIx b:=by exact fun _ _=>rfl):Bp X W (.Subscript a b pos) (e2 fa fb A4) (la ++ lb):=by
 obtain ⟨ta,pa,da⟩:=ha
 obtain ⟨tb,pb,db⟩:=hb
 exact ⟨_,pe_ix ix_seq pa pb hs,XS NM da db⟩
theorem B7(i:Nat){x:Str}(hb:Bp X W b fb lb)(hN:X.N[i]? = some x:=by rfl)(hv:Vis X.env.scope x:=by first | exact Or.inl rfl | exact Or.inr (Or.inl rfl) | exact Or.inr (Or.inr rfl))(hd:(x == ("__debug__" : Str))=false:=by decide)
  (hcd:(x == ("__classdict__" : Str))=false:=by decide) (hs:PlainIx b:=by exact fun _ _=>rfl):Bp X W (.Subscript (.Name x p) b pos) (e2 (Ab i) fb A4) []:=by
 obtain ⟨tb,pb,db⟩:=hb
 exact ⟨_,pe_ix ix_seq (pe_var hN hv hd hcd) pb hs,Rr i db⟩
theorem KZ:POD X W none J6:=⟨_,po_none,Wd⟩
theorem Lb(h:Bp X W e f la):POD X W (some e) (Pt f):=by
 obtain ⟨t,p,d⟩:=h
 exact ⟨_,po_some p,VG d⟩
end
section
variable {K:PySem.W.Frag}
theorem Yp{κ:KM}{H:Hp}{A:Ad}{d:Dt}{v:V}{t:String}(r:Rep κ H A d v)(e:d.tyN=some t):TyX κ.K H v (.type t):=by
 cases d with
 | non=>cases e; have e1:v=.non:=r; subst e1; exact .base .non
 | bl b=>cases e; have e1:v=.bl b:=r; subst e1; exact .base (.bl b)
 | int b=>cases e; have e1:v=.int b:=r; subst e1; exact .base (.int b)
 | str b=>cases e; have e1:v=.str b:=r; subst e1; exact .base (.str b)
 | ty _=>cases e
 | cls _=>cases e
 | ad _=>cases e
 | fls _=>cases e
 | ptp _=>
  cases e
  unfold Rep at r
  obtain ⟨a,vs,rfl,⟨_,o,h,_⟩,_⟩:=r
  exact .fTuple h
 | ntp _=>cases e
 | obj _ _ _=>cases e
 | exn _ _ _ _ _=>cases e
 | tup ds=>
  cases e
  unfold Rep at r
  obtain ⟨a,vs,rfl,h | ⟨o,Hw,n,h1,h2,_⟩,_⟩:=r
  ·exact .base (.tup h.2)
  ·exact .kTuple h1 h2
 | lst ds=>
  cases e
  unfold Rep at r
  obtain ⟨a,vs,rfl,_,h,_⟩:=r
  exact .base (.lst h)
 | dic ks ds=>
  cases e
  unfold Rep at r
  obtain ⟨a,kvs,rfl,_,h,_⟩:=r
  rcases h with h | ⟨o,h⟩
  ·exact .base (.dK h)
  ·exact .fDict h
 | dit ks ds=>cases e
theorem V2:P9 K (rIsi K) Du:=by
 intro μ H A ds d vs Q ha r e q
 unfold Du at e
 split at e
 ·rename_i x n
  obtain ⟨v,u,rfl,r1,r2⟩:=PY r
  have e2:u=.ty n:=r2
  subst e2
  cases h1:x.tyN with
  | none=>rw [h1] at e; cases e
  | some t=>
   rw [h1] at e
   cases h2:kitB t n with
   | none=>
    have e':(kitB t n).map (fun b=>Dt.bl b)=some d:=e
    rw [h2] at e'
    cases e'
   | some b=>
    have e':(kitB t n).map (fun b=>Dt.bl b)=some d:=e
    rw [h2] at e'
    cases e'
    exact ⟨v,.ty n,.type t,.type n,b,rfl,.ty n,Yp r1 h1,kit_ty h2,RE.now q rfl⟩
 ·cases e
theorem SU:∀ ds d,Du ds=some d→d.scal=true:=fun ds d e=>by
 unfold Du at e
 split at e
 ·rename_i x n
  cases h1:x.tyN with
  | none=>rw [h1] at e; cases e
  | some t=>
   rw [h1] at e
   have e':(kitB t n).map (fun b=>Dt.bl b)=some d:=e
   cases h2:kitB t n with
   | none=>rw [h2] at e'; cases e'
   | some b=>rw [h2] at e'; cases e'; rfl
 ·cases e
@[simp] theorem DR(i:Int):Du [.int i,.ty "int"]=some (.bl true):=by
 have h:kitB "int" "int" = some true:=by decide +kernel
 show (kitB "int" "int").map (fun b=>Dt.bl b)=_
 rw [h]; rfl
@[simp] theorem Dk(i:Int):Du [.int i,.ty "bool"]=some (.bl false):=by
 have h:kitB "int" "bool" = some false:=by decide +kernel
 show (kitB "int" "bool").map (fun b=>Dt.bl b)=_
 rw [h]; rfl
@[simp] theorem FE(i:List Dt):Du [.tup i,.ty "tuple"]=some (.bl true):=by
 have h:kitB "tuple" "tuple" = some true:=by decide +kernel
 show (kitB "tuple" "tuple").map (fun b=>Dt.bl b)=_
 rw [h]; rfl
@[simp] theorem Wx(i:Str):Du [.str i,.ty "str"]=some (.bl true):=by
 have h:kitB "str" "str" = some true:=by decide +kernel
 show (kitB "str" "str").map (fun b=>Dt.bl b)=_
 rw [h]; rfl
end
section
variable {X:Cx} {W:WX} {e a b:Expr} {fs:Env→Out (List Dt)} {lk:List Nat} {pos p:Pos}
theorem JC(hg:Gl X "isinstance")(hm:X.mg "isinstance" = none)(ha:JR X W [a,b] fs lk)(he:starEach [a,b] X.env=(false,eval a X.env) :: starEach [b] X.env:=by rfl)(hpl:(backTo pos (starEach [b] X.env)).any (·.1)=false:=by rfl):
  Bp X W (.Call (.Name "isinstance" p) [a,b] [] pos) (eB Du fs) []:=by
 obtain ⟨ta,pa,da⟩:=ha
 exact ⟨_,pe_callB call_isi hg hm PyProof.Rows.boot_isinstance pa (by decide) (by decide) he hpl,Ew V2 SU da⟩
end
def W0:WX:=fun _ _ _ _=>False
def Br(ρ:Env):List Nat→Env
 | []=>ρ
 | v :: vs=>(Br ρ vs).set v none
def UJ{α:Type}:Out α→Out α
 | .ok a=>.ok a
 | _=>.bad
@[simp] theorem G1{α:Type}(a:α):UJ (.ok a)=.ok a:=rfl
def P6(u:Dt→Env→Option Env)(t:Env→Out Bool)(f:Env→Out Dt)(ρ:Env):List Dt→Out (List Dt)
 | []=>.ok []
 | d :: ds=>(DY (u d ρ)).bind fun ρ1=>(UJ (t ρ1)).bind fun b=>if b=true then (UJ (f ρ1)).bind fun y=>(P6 u t f ρ ds).bind fun r=>.ok (y :: r) else P6 u t f ρ ds
def EG(u:Dt→Env→Option Env)(vs:List Nat)(t:Env→Out Bool)(f:Env→Out Dt)(src:Env→Out (List Dt))(lk:List Nat):Env→Out (List Dt):=fun ρ=>(src ρ).bind fun ds=>if ds.length≤16777216 then P6 u t f (Br (frz lk ρ) vs) ds else .bad
section
variable {K:PySem.W.Frag} {κ:KM} {μ:Mu} {W:WX} {H0 H H1 H2:Hp} {A A0:Ad} {ρ:Env} {σ:L2.St} {lk la lb:List Nat}
theorem OJ{ρ:Env}{i:Nat}{x:Lo}:∀ {vs:List Nat},(Br ρ vs)[i]? = some (some x)→ρ[i]? = some (some x)∧i∉vs
 | [],h=>⟨h,by simp⟩
 | v :: vs,h=>by
  unfold Br at h
  by_cases hi:v=i
  ·subst hi
   by_cases hv:v < (Br ρ vs).length
   ·rw [List.getElem?_set_self hv] at h; cases h
   ·rw [List.getElem?_eq_none (by simpa using hv)] at h; cases h
  ·rw [List.getElem?_set_ne hi] at h
   obtain ⟨h1,h2⟩:=OJ h
   exact ⟨h1,by simp only [List.mem_cons,not_or]; exact ⟨fun e=>hi e.symm,h2⟩⟩
theorem Ft(ρ:Env):∀ vs:List Nat,(Br ρ vs).length=ρ.length
 | []=>rfl
 | v :: vs=>by unfold Br; rw [List.length_set,Ft ρ vs]
theorem K6{ρ:Env}{i:Nat}:∀ {vs:List Nat},i∉vs→(Br ρ vs)[i]? = ρ[i]?
 | [],_=>rfl
 | v :: vs,h=>by
  unfold Br
  rw [List.getElem?_set_ne fun e=>h (by rw [e]; exact List.mem_cons_self)]
  exact K6 fun z=>h (List.mem_cons_of_mem _ z)
theorem DI{σ:L2.St}{i:Nat}:∀ {vs:List Nat},i∉vs→(wipe σ vs)[i]? = σ[i]?
 | [],_=>rfl
 | v :: vs,h=>by
  unfold wipe
  rw [List.getElem?_set_ne fun e=>h (by rw [e]; exact List.mem_cons_self)]
  exact DI fun z=>h (List.mem_cons_of_mem _ z)
theorem ZQ{vs:List Nat}{i:Nat}{a:Addr}(h:AH κ (Br ρ vs) (wipe σ vs) i a):AH κ ρ σ i a∧i∉vs:=by
 obtain ⟨l,e,ho⟩:=h
 obtain ⟨e1,n⟩:=OJ e
 rw [DI n] at ho
 exact ⟨⟨l,e1,ho⟩,n⟩
theorem StOk.T4(s:StOk κ H0 A0 H ρ σ):∀ vs:List Nat,StOk κ H0 A0 H (Br ρ vs) (wipe σ vs)
 | []=>s
 | v :: vs=>by
  unfold Br wipe
  exact (StOk.T4 s vs).gone v
theorem StOk.ZR(s:StOk κ H0 A0 H ρ σ){D:Addr}{acc:List V}(hD:H D=none)(hs:Same H H2)(h2:H2 D=some (.lst acc)):StOk κ (Bs κ H2 ρ σ []) (fun a=>A0 a∨a=D) H2 ρ σ:=by
 have nD:¬ Ow κ ρ σ [] D:=fun ⟨i,_,h⟩=>by
  obtain ⟨⟨o,e⟩,_⟩:=s.BW h
  rw [hD] at e
  cases e
 have av:∀ a,Av κ (fun a=>A0 a∨a=D) ρ σ [] a→Av κ A0 ρ σ [] a∨H a=none:=by
  rintro a ((z | z) | z)
  ·exact .inl (.inl z)
  ·rw [z]
   exact .inr hD
  ·exact .inl (.inr z)
 have nA:∀ a,A0 a→¬ Ow κ ρ σ [] a:=fun a z q=>by
  have q1:=s.a0 a z
  rw [s.RV q] at q1
  exact q1
 refine ⟨Kq,fun a z=>?_,s.len,fun i l e=>CW.gen (F:=κ.K) (m:=κ.mu) (m':=κ.mu) (Xt.refl _) (fun _=>rfl) (fun a o _ q=>hs a o q) av (fun a _ o q=>hs a o q) (fun a ho _=>Q9 ⟨i,(fun z=>nomatch z),l,e,ho⟩) (s.lo i l e),s.ap,s.one,s.nm⟩
 rcases z with z | z
 ·rw [F1 (nA a z)]
  exact (s.grow hs).Ez (lk:=[]) (.inl z)
 ·subst z
  rw [F1 nD,h2]
  exact True.intro
theorem Ga{wi:TI}{g:TG}{tt:TT}{te:TE}{u:Dt→Env→Option Env}{S vs lt le:List Nat}{t:Env→Out Bool}{f:Env→Out Dt}{src:Env→Out (List Dt)}(hi:XH K W wi src lk)(hg:Wb K g u S)(hS:∀ i∈S,i∈vs)
  (ht:OU K W0 tt t lt) (he:DZ K W0 te f le):VB K W (tLc wi g tt te vs) (EG u vs t f src lk) (lk ++ (le ++ vs)):=by
 intro μ H0 A0 ρ σ H Q s h
 refine hi _ _ _ _ _ _ _ s (h.seq fun ds _ h1 J H1 s1 w=>?_)
 intro D hD
 split at h1
 case isFalse=>exact False.elim h1
 rename_i hz
 obtain ⟨sB,hB⟩:=s.rebase s1 lk
 have sW:=sB.T4 vs
 -- what is wanted,without the wish
 cases eo:P6 u t f (Br (frz lk ρ) vs) ds with
 | exc x=>
  exfalso
  have key:∀ es,P6 u t f (Br (frz lk ρ) vs) es≠.exc x:=by
   intro es
   induction es with
   | nil=>intro z; cases z
   | cons d es ih=>
    intro z
    unfold P6 at z
    cases e1:u d (Br (frz lk ρ) vs) with
    | none=>rw [e1] at z; cases z
    | some ρ1=>
     rw [e1] at z
     simp only [Co,Out.AB] at z
     cases e2:t ρ1 with
     | ok b=>
      rw [e2] at z
      simp only [G1,Out.AB] at z
      split at z
      ·cases e3:f ρ1 with
       | ok y=>
        rw [e3] at z
        simp only [G1,Out.AB] at z
        cases e4:P6 u t f (Br (frz lk ρ) vs) es with
        | ok r=>rw [e4] at z; cases z
        | exc x'=>rw [e4] at z; cases z; exact ih e4
        | bad=>rw [e4] at z; cases z
       | exc x'=>rw [e3] at z; cases z
       | bad=>rw [e3] at z; cases z
      ·exact ih z
     | exc x'=>rw [e2] at z; cases z
     | bad=>rw [e2] at z; cases z
  exact key ds eo
 | bad=>rw [eo] at h1; exact False.elim h1
 | ok res=>
  rw [eo] at h1
  have avs:∀ a,Av ⟨K,μ⟩ A0 ρ σ (lk ++ (le ++ vs)) a→Av ⟨K,μ⟩ A0 (frz lk ρ) σ (le ++ vs) a:=by
   rintro a (z | ⟨i,n,l,e,ho⟩)
   ·exact .inl z
   ·refine .inr ⟨i,fun q=>n (List.mem_append_right _ q),l,?_,ho⟩
    exact frz_ne (fun q=>n (List.mem_append_left _ q)) e
  -- the invariant: the items so far,and what the rest will give
  refine ⟨fun i m H'=>m + i=ds.length∧Same H1 H'∧∃ (done todo:List Dt) (acc:List V),H' D=some (.lst acc)∧acc.length≤i∧P6 u t f (Br (frz lk ρ) vs) (ds.drop i)=.ok todo∧done ++ todo=res ∧
   Ag ⟨K,μ⟩ H' (fun a=>Av ⟨K,μ⟩ A0 ρ σ (lk ++ (le ++ vs)) a∨a=D) done acc,⟨ds.length,by omega,Same.new hD,[],res,[],upd_same,Nat.le_refl 0,eo,rfl,Ag.nil⟩,?_⟩
  rintro i m H2 ⟨hm,s2,done,todo,acc,hacc,hlen,e,hres,racc⟩
  have sBW:Same (Bs ⟨K,μ⟩ H1 ρ σ lk) H2:=Kq.trans s2
  by_cases hlt:i < ds.length
  ·have hd:ds.drop i=ds[i] :: ds.drop (i + 1):=List.drop_eq_getElem_cons hlt
   rw [hd] at e
   unfold P6 at e
   refine .inr ⟨w.go i H2 sBW hlt,fun H'=>Same H1 H'∧∃ (done todo:List Dt) (acc:List V),H' D=some (.lst acc)∧acc.length≤i + 1∧P6 u t f (Br (frz lk ρ) vs) (ds.drop (i + 1))=.ok todo∧done ++ todo=res ∧
    Ag ⟨K,μ⟩ H' (fun a=>Av ⟨K,μ⟩ A0 ρ σ (lk ++ (le ++ vs)) a∨a=D) done acc,fun H' q=>⟨m - 1,by omega,by omega,q⟩,fun x H3 y=>?_⟩
   obtain ⟨s3,r3⟩:=w.yld i H2 x H3 ds[i] sBW y (List.getElem?_eq_getElem hlt)
   have hacc3:=s3 _ _ hacc
   have sD:=sW.ZR hD (s2.trans s3) hacc3
   cases eu:u ds[i] (Br (frz lk ρ) vs) with
   | none=>rw [eu] at e; cases e
   | some ρ1=>
    rw [eu] at e
    simp only [Co,Out.AB] at e
    refine hg _ _ _ _ _ _ _ _ _ _ sD (r3 _ fun a z=>?_) eu fun σ4 s4 m4 o4=>⟨?_,?_⟩
    ·rcases z with (z | z) | ⟨j,n,z⟩
     ·refine ⟨.inl z,?_⟩
      have q:=sD.Ez (lk:=[]) (a:=a) (.inl (.inl z))
      intro z2
      have z3:H3 a=none:=by
       cases q3:H3 a with
       | none=>rfl
       | some o=>
        exfalso
        have q4:=(s.grow s1).Ez (lk:=[]) (a:=a) (.inl z)
        cases q5:H1 a with
        | none=>rw [q5] at q4; exact q4
        | some o'=>
         have q6:=s2 a o' q5
         rw [z2] at q6
         cases q6
      rw [z3] at q
      exact q
     ·subst z
      refine ⟨.inr ?_,by rw [hacc]; intro z; cases z⟩
      have:Bs ⟨K,μ⟩ H1 ρ σ lk a=none:=by
       unfold Bs
       split
       ·rfl
       ·exact hD
      exact this
     ·obtain ⟨z1,_⟩:=ZQ z
      refine ⟨.inr ?_,?_⟩
      ·exact (sB.BW z1).2
      ·obtain ⟨⟨o,q⟩,_⟩:=sB.BW z1
       rw [s2 _ _ q]
       intro z
       cases z
    ·-- the slots of the block alone were stored
     have wl:∀ vs':List Nat,(∀ i∈S,i∈vs')→wipe σ4 vs'=wipe (wipe σ vs) vs':=fun vs' hv=>by
      apply List.ext_getElem?
      intro j
      by_cases hj:j∈vs'
      ·have n1:∀ τ:L2.St,j < τ.length→(wipe τ vs')[j]? = some none:=fun τ hjl=>wipe_mem hj hjl
       by_cases hl:j < σ4.length
       ·rw [n1 _ hl,n1 _ (by rw [← o4.1]; exact hl)]
       ·rw [List.getElem?_eq_none (by rw [wipe_length]; omega),List.getElem?_eq_none (by rw [wipe_length,← o4.1]; omega)]
      ·rw [DI hj,DI hj]
       exact (o4.2 j fun z=>hj (hv j z)).1
     rw [wl vs hS,wipe_idem]
    ·refine ht _ _ _ _ _ _ _ s4 ?_
     cases et:t ρ1 with
     | exc x'=>rw [et] at e; cases e
     | bad=>rw [et] at e; cases e
     | ok b=>
      rw [et] at e
      simp only [G1,Out.AB] at e
      intro H4 s5
      cases b with
      | false=>
       simp only [Bool.false_eq_true,if_false] at e ⊢
       exact ⟨(s2.trans s3).trans s5,done,todo,acc,s5 _ _ hacc3,by omega,e,hres,(racc.same s3).same s5⟩
      | true=>
       simp only [if_true] at e ⊢
       refine he _ _ _ _ _ _ _ (s4.grow s5) ?_
       cases ef:f ρ1 with
       | exc x'=>rw [ef] at e; cases e
       | bad=>rw [ef] at e; cases e
       | ok y=>
        rw [ef] at e
        simp only [G1,Out.AB] at e
        cases er:P6 u t f (Br (frz lk ρ) vs) (ds.drop (i + 1)) with
        | exc x'=>rw [er] at e; cases e
        | bad=>rw [er] at e; cases e
        | ok r=>
         rw [er] at e
         have ey:y :: r=todo:=by
          have e':(Out.ok (y :: r):Out (List Dt))=.ok todo:=e
          injection e'
         intro v5 H5 s6 r5
         have hD5:=s6 _ _ (s5 _ _ hacc3)
         refine ⟨acc,hD5,by rw [sizeLine_eq]; omega,fun a o q=>?_,done ++ [y],r,acc ++ [v5],upd_same,by rw [List.length_append,List.length_singleton]; omega,rfl,?_,?_⟩
         ·rw [upd_ne (ne_of_none q hD)]
          exact s6 _ _ (s5 _ _ (s3 _ _ (s2 _ _ q)))
         ·rw [List.append_assoc]
          show done ++ (y :: r)=res
          rw [ey]
          exact hres
         ·have keep:∀ a o,¬ (Av ⟨K,μ⟩ A0 ρ σ (lk ++ (le ++ vs)) a∨a=D)→H5 a=some o→upd H5 D (.lst (acc ++ [v5])) a=some o:=fun a o n q=>by
           rw [upd_ne fun z=>n (.inr z)]
           exact q
          refine Ag.mono keep (fun a z=>z) _ _ (Ag.append (((racc.same s3).same s5).same s6) (Ag.cons (r5.Bv fun a z=>?_) Ag.nil))
          rcases z with z | z
          ·rcases avs a z with z | ⟨j,n,l,e1,ho⟩
           ·exact .inl (.inl z)
           ·have nv:j∉vs:=fun q=>n (List.mem_append_right _ q)
            have nS:j∉S:=fun q=>nv (hS j q)
            refine .inr ⟨j,fun q=>n (List.mem_append_left _ q),l,?_,?_⟩
            ·rw [(o4.2 j nS).2,K6 nv]
             exact e1
            ·rw [(o4.2 j nS).1,DI nv]
             exact ho
          ·exact .inl (.inr z)
  ·have e1:i=ds.length:=by omega
   subst e1
   rw [List.drop_length] at e
   have et:todo=[]:=by
    have e':(Out.ok []:Out (List Dt))=.ok todo:=e
    injection e' with e'
    exact e'.symm
   subst et
   rw [List.append_nil] at hres
   subst hres
   refine .inl ⟨w.stop H2 sBW,?_⟩
   exact h1 D acc H2 (s1.trans s2) (s1.free hD) hacc racc
where
 frz_ne {lk:List Nat} {ρ:Env} {i:Nat} {l:Lo} (hn:i∉lk) (e:ρ[i]? = some (some l)):(frz lk ρ)[i]? = some (some l):=by
  induction lk generalizing ρ with
  | nil=>exact e
  | cons j lk ih=>
   rw [CO]
   refine ih (fun q=>hn (List.mem_cons_of_mem _ q)) ?_
   unfold FD.F9
   split
   ·rw [List.getElem?_set_ne fun z=>hn (by rw [z]; exact List.mem_cons_self)]
    exact e
   ·rw [List.getElem?_set_ne fun z=>hn (by rw [z]; exact List.mem_cons_self)]
    exact e
   ·exact e
 wipe_mem {τ:L2.St} {j:Nat} {vs:List Nat} (h:j∈vs) (hl:j < τ.length):(wipe τ vs)[j]? = some none:=by
  induction vs with
  | nil=>cases h
  | cons v vs ih=>
   unfold wipe
   by_cases e:v=j
   ·subst e
    rw [List.getElem?_set_self (by rw [wipe_length]; exact hl)]
   ·rw [List.getElem?_set_ne e]
    rcases List.mem_cons.mp h with z | z
    ·exact absurd z.symm e
    ·exact ih z
 wipe_idem {τ:L2.St} {vs:List Nat}:wipe (wipe τ vs) vs=wipe τ vs:=by
  apply List.ext_getElem?
  intro j
  by_cases hj:j∈vs
  ·by_cases hl:j < τ.length
   ·rw [wipe_mem hj (by rw [wipe_length]; exact hl),wipe_mem hj hl]
   ·rw [List.getElem?_eq_none (by rw [wipe_length,wipe_length]; omega),List.getElem?_eq_none (by rw [wipe_length]; omega)]
  ·rw [DI hj,DI hj]
end
end FD
namespace PySem.FX
open PySem PySem.W PySem.Calls PyProof.Rows PySem.Spec
abbrev J0(p0 p1 p2 p3 p4:Pos)(msg:Expr):Stmt:=.Expr (.Call (.Attribute (.Call (.Name "super" p0) [] [] p1) "__init__" p2) [msg] [] p3) p4
abbrev Zf(C t:Addr)(dv:Option Addr):Obj:={ cls:=.ref C,dict:=dv,data:=.fields #[.ref t,.none,.none,.none,.bool false,.none] }
structure XTxt (prog:Program) (K:Frag) (mg:Str→Option Value) (C fI cc cda:Addr) (qual:Str) (params:Arguments) (body:List Stmt) (scope:Scope):Prop where
 cls:∃ nm q N bs bm sn sub ab col dd k0 k1 k2 k3 k5,K.lookup C=some (excClassObj nm q C N bs bm true sn sub ab col dd k0 k1 k2 k3 k5 "ValueError.__new__")∧HandSPX.refsVE bm=true
 sa:findIn K (.ref C) "__setattr__" = some (some (.builtin "object.__setattr__"))
 iC:findIn K (.ref C) "__init__" = some (some (.ref fI))
 tI:typeIn K (.ref fI)=some (.type "function")
 kC:keepIn K (.ref C)=true
 exC:subIn K (.ref C) (.type "BaseException")=some true
 exVE:subIn K (.ref C) (.type "ValueError")=some true
 tyC:typeIn K (.ref C)=some (.type "type")
 sub:mroIn K C (.ref C)=some true
 supI:ks_superIn K C C "__init__" = some (some (.builtin "ValueError.__init__"))
 any:nsIn K cStatics "thirdparty.any" = some none
 mgS:mg "super" = none
 cell:∃ cl cld csl,K.lookup cc=some ⟨cl,cld,.cell (some (.ref C)),csl⟩
 code:∃ ccl cdd vs ccs f tf,K.lookup cda=some ⟨ccl,cdd,.fields vs,ccs⟩∧vs[2]? = some (.str f tf)∧((prog.main.file:Str) == f)=true
 top:(prog.main.scope.names.lookup ("super" : Str)).isSome=false
 fn:∃ (oc:Value) (od:Option Addr) (kV doc pm:Value) (an:Option Addr) (ct:Value) (osl:Array (Option Value)),K.lookup fI=some ⟨oc,od,.func (ksFn "__init__" qual params body scope .none kV doc pm an (.ref cda) ct cc),osl⟩∧codeIn K (.ref cda) qual=true
section
variable {prog:Program} {w:World} {A:Around} {E:Value→Shared→Prop} {s:Shared} {K:Frag} {mg:Str→Option Value} {C fI cc cda:Addr} {qual:Str} {params:Arguments} {body:List Stmt} {scope:Scope}
theorem Su(T:XTxt prog K mg C fI cc cda qual params body scope){base:Heap}(hb:∀ b o,base.get? b=some o→s.heap.get? b=some o)(M:L2.Mod K mg base){L x t0:Addr}{m:Str→Option Value}{dv:Option Addr}{p0 p1 p2 p3 p4:Pos}{msg:Expr}{ar:Arg}{Q:Flow→Shared→Prop}
  (hx:s.heap.get? x=some (Zf C t0 dv)) (hdv:∀ d,dv=some d→∃ od,s.heap.get? d=some od) (hn:s.heap.Ns L m) (hself:m "self" = some (.ref x)) (har:(params.posonlyargs ++ params.args).head? = some ar) (hself':ar.arg = "self")
  (hks:scope.names.lookup ("super" : Str)=some .globalImplicit) (hkc:scope.names.lookup ("__class__" : Str)=some .free) (hka:scope.names.lookup ("self" : Str)=some .local) (hk:scope.kind=.function)
  (hmsg:∀ s':Shared,s'.heap.Ns L m→wpAny (model prog w) A (eval msg (ksEnv qual scope L fI (.ref cda) cc)) (fun v s2=>∃ z t tk,v=.str z t∧s2 = { s' with toks:=tk }) E s')
  (hst:starEach [msg] (ksEnv qual scope L fI (.ref cda) cc)=[(false,eval msg (ksEnv qual scope L fI (.ref cda) cc))])
  (hsw:swapsWith (.Call (.Attribute (.Call (.Name "super" p0) [] [] p1) "__init__" p2) [msg] [] p3) none p4.line (ksEnv qual scope L fI (.ref cda) cc)=pure false)
  (hev:∃ pl:Sem Bool,eval (.Call (.Attribute (.Call (.Name "super" p0) [] [] p1) "__init__" p2) [msg] [] p3) (ksEnv qual scope L fI (.ref cda) cc)=(do
   let ov ← attributeBase (.Call (.Name "super" p0) [] [] p1) "__init__" (ksEnv qual scope L fI (.ref cda) cc) (eval (.Call (.Name "super" p0) [] [] p1) (ksEnv qual scope L fI (.ref cda) cc))
   standAt p2.atName
   let (f,first) ← holding [ov] (getMethod ov "__init__" pl)
   callWith p3 f first (backTo p3 (starEach [msg] (ksEnv qual scope L fI (.ref cda) cc))) []))
  (hq:∀ h' tk t1,(∀ b o,b≠x→s.heap.get? b=some o→h'.get? b=some o)→h'.get? x=some (Zf C t1 dv)→Q .next { s with heap:=h',toks:=tk }):
  wpAt (model prog w) A (.func body (ksEnv qual scope L fI (.ref cda) cc)) (exec (J0 p0 p1 p2 p3 p4 msg) (ksEnv qual scope L fI (.ref cda) cc)) Q E s:=by
 obtain ⟨nm,q,N,bs,bm,sn,sub,ab,col,dd,k0,k1,k2,k3,k5,hC,hbm⟩:=T.cls
 obtain ⟨oc,od,kV,doc,pm,an,ct,osl,lkF,hcd⟩:=T.fn
 obtain ⟨cl,cld,csl,hcell⟩:=T.cell
 obtain ⟨ccl,cdd,vs,ccs,f,tf,hcode,hvs,hfile⟩:=T.code
 have X:K.In s.heap:=M.kin.keeps hb
 obtain ⟨mb,hmb,hbt⟩:=M.blt
 obtain ⟨pl,hev⟩:=hev
 have hcx:clsIn K C=some { name:=nm,bases:=bs,mro:=.ref C :: bm,ns:=N,qualname:=q,hasDict:=true,slotNames:=sn,subclasses:=sub,abstract:=ab,collection:=col,hasDel:=false }:=by unfold clsIn; rw [hC] <;> rfl
 obtain ⟨odx,I⟩:∃ odx,W.InstAt s.heap x (Zf C t0 dv) C odx:=by
  cases dv with
  | none=>exact ⟨none,hx,rfl,rfl,trivial⟩
  | some d=>
   obtain ⟨od,hod⟩:=hdv d rfl
   exact ⟨some od,hx,rfl,rfl,hod⟩
 have hI:W.Looks (model prog w) s.heap (isInstance (.ref x) (.type "ValueError")) true:=I.type.andThen (looks_subIn X T.exVE)
 refine ks_wpAt_Expr_any (ks_wpAt_MethodCall (pl:=pl) ?_ hev) (by simp [interactive,hk]) hsw
 refine ks_wpAt_super_base (env:=ksEnv qual scope L fI (.ref cda) cc) hks hkc rfl rfl (X _ _ lkF) rfl har rfl (X _ _ hcode) rfl hvs hfile T.top ?_
 refine ks_loadName_global hk hks (Calls.loadGlobal_builtin (env:=ksEnv qual scope L fI (.ref cda) cc) (M.glob.keeps hb) T.mgS (hmb.keeps hb) ((hbt _ (by decide +kernel)).trans (by first | rfl | kernel_rfl)) ⟨rfl,?_⟩)
 refine wpAny_loadName_free hk hkc rfl ⟨_,X _ _ hcell,rfl⟩ ?_
 rw [hself']
 refine wpAny_loadName_local hk hka hn hself ?_
 refine ks_wpAny_isType_cls (X _ _ hC) rfl ⟨rfl,?_⟩
 obtain ⟨hh,g,d,t,os⟩:=s
 refine ks_wpAny_call_super (X _ _ hC) rfl hx rfl (fun c e=>by cases e) (looks_mroIn X T.sub) (fun h1 e1 kk1=>?_)
 -- the method
 have X1:K.In h1:=X.keeps kk1
 have hI1:W.Looks (model prog w) h1 (isInstance (.ref x) (.type "ValueError")) true:=hI.keeps kk1
 have hsup:=T.supI
 unfold ks_superIn at hsup
 rw [hcx] at hsup
 refine kxs_getMethod kxs_ValueError e1 (looks_opaque X1 T.any) (l₀:=.ref C :: bm) ?_ rfl X1 hsup hI1 (fun z=>?_) rfl ?_
 ·exact fun A Q E s k q=>wpAny_bind ((looks_clsIn X1 hcx) A _ E s k (wpAny_pure q))
 ·subst z
  have:=X _ _ hC
  rw [hx] at this
  cases this
 -- the message,the call
 have hne:∀ (b:Addr) (o:Obj),hh.get? b=some o→((h1.push (kxs_mw "ValueError.__init__" x))).get? b=some o:=fun b o e=>Heap.get?_push_of_some _ (kk1 b o e)
 rw [hst]
 have hn2:(h1.push (kxs_mw "ValueError.__init__" x)).Ns L m:=hn.keeps hne
 have hxu:h1.objs.size≠x:=Nat.ne_of_gt (Heap.lt_size (kk1 _ _ hx))
 refine kxs_callWith (i:="ValueError.__init__") (x:=x) rfl (Calls.evalArgs_plain (Calls.spliced_cons (wpAny_mono (hmsg _ hn2) (fun v s2 hv=>?_) fun _ _ z=>z)))
 obtain ⟨z,tz,tk,rfl,rfl⟩:=hv
 refine Calls.spliced_nil ⟨Heap.get?_push_at rfl rfl,?_⟩
 have hu:(h1.push (kxs_mw "ValueError.__init__" x)).get? h1.objs.size=some (kxs_mw "ValueError.__init__" x):=Heap.get?_push_at rfl rfl
 have hx3:(h1.push (kxs_mw "ValueError.__init__" x)).get? x=some (Zf C t0 dv):=hne _ _ hx
 have hC3:(h1.push (kxs_mw "ValueError.__init__" x)).get? C=some (excClassObj nm q C N bs bm true sn sub ab col dd k0 k1 k2 k3 k5 "ValueError.__new__"):=hne _ _ (X _ _ hC)
 show wpAny _ _ (call (.ref h1.objs.size) [Value.str z tz]) _ _ _
 refine wpAny_call (codeAny_of_tree ?_)
 show wpAny _ A.in1 (callAny (.ref h1.objs.size) ⟨[Value.str z tz],[]⟩) _ _ _
 simp only [callAny]
 refine wpAny_bind (wpAny_load hu ?_)
 simp only [kxs_mw,show (Value.type "method-wrapper" == Value.type "method" || Value.type "method-wrapper" == Value.type "builtin_function_or_method" || Value.type "method-wrapper" == Value.type "method-wrapper")=true by decide,if_true]
 refine KFB.if_so (by decide) ?_
 have FB:=F.excBase_ValueError
 refine wpAny_bind (check_bound_init FB.toExcCallFacts hC3 hx3 rfl ?_)
 refine wpAny_bind (wpAny_pure (wpAny_pure ?_))
 refine ⟨plainId_quiet FB.init.plain _,codeAny_builtin FB.initEntry ?_⟩
 refine exc_init_tree (cls:=.ref C) (t0:=t0) (dv:=dv) (c2:=.none) (c3:=.none) (b4:=.bool false) hx3 (by show 1≤sizeLine; rw [sizeLine_eq]; decide) fun h' k' e' _=>?_
 exact hq h' _ _ (fun b o hb e=>k' b o hb (hne b o e)) e'
structure XEnd (h h':Heap) (x C t1:Addr) (dv:Option Addr) (mA:Str→Option Value):Prop where
 keep:∀ b o,b≠x→h.get? b=some o→h'.get? b=some o
 obj:h'.get? x=some (Zf C t1 dv)
 dct:∀ dx,dv=some dx→h.objs.size≤dx∧dx≠x∧h'.Ns1 dx mA
def QI(prog:Program)(w:World)(env:PySem.Env)(m:Str→Option Value)(msg:PySem.Expr):Prop:=∀ (A:Around) (E:Value→Shared→Prop) (s':Shared),s'.heap.Ns env.locals m →
 wpAny (model prog w) A (eval msg env) (fun v s2=>∃ z t tk,v=.str z t∧s2 = { s' with toks:=tk }) E s'
structure XForm (env:PySem.Env) (p0 p1 p2 p3 p4:Pos) (msg:PySem.Expr):Prop where
 st:starEach [msg] env=[(false,eval msg env)]
 sw:swapsWith (.Call (.Attribute (.Call (.Name "super" p0) [] [] p1) "__init__" p2) [msg] [] p3) none p4.line env=pure false
 ev:∃ pl:Sem Bool,eval (.Call (.Attribute (.Call (.Name "super" p0) [] [] p1) "__init__" p2) [msg] [] p3) env=(do
   let ov ← attributeBase (.Call (.Name "super" p0) [] [] p1) "__init__" env (eval (.Call (.Name "super" p0) [] [] p1) env)
   standAt p2.atName
   let (f,first) ← holding [ov] (getMethod ov "__init__" pl)
   callWith p3 f first (backTo p3 (starEach [msg] env)) [])
variable {R:Result→Shared→Prop} {base:Heap}
theorem YR{p0 p1 p2 p3 p4:Pos}{msg:PySem.Expr}{ar:Arg}{x t0:Addr}(T:XTxt prog K mg C fI cc cda qual params [J0 p0 p1 p2 p3 p4 msg] scope)(hb:∀ b o,base.get? b=some o→s.heap.get? b=some o)(M:L2.Mod K mg base)
  (hx:s.heap.get? x=some (Zf C t0 none)) (hlim:s.heap.NoLimit) (hroom:A.depth < recursionLimit) (har:(params.posonlyargs ++ params.args).head? = some ar) (hself':ar.arg = "self")
  (hbind:∀ kV doc pm an ct,BindsTo s (ksFn "__init__" qual params [J0 p0 p1 p2 p3 p4 msg] scope .none kV doc pm an (.ref cda) ct cc) ⟨[.ref x],[]⟩ [("self",.ref x)])
  (hcell:∀ y∈scope.names,y.2≠.cell) (hks:scope.names.lookup ("super" : Str)=some .globalImplicit) (hkc:scope.names.lookup ("__class__" : Str)=some .free) (hka:scope.names.lookup ("self" : Str)=some .local) (hk:scope.kind=.function)
  (hco:scope.isCoroutine=false) (hgen:scope.isGenerator=false)
  (hf:∀ L,XForm (ksEnv qual scope L fI (.ref cda) cc) p0 p1 p2 p3 p4 msg) (hmsg:∀ L,QI prog w (ksEnv qual scope L fI (.ref cda) cc) (fun y=>[(("self" : Str),Value.ref x)].reverse.lookup y) msg)
  (hq:∀ h' tk t1,XEnd s.heap h' x C t1 none (fun _=>none)→R (.ok (.ret .none)) { s with heap:=h',toks:=tk }):
  codeAny (model prog w) A (.call (.ref fI) ⟨[.ref x],[]⟩) R s:=by
 obtain ⟨oc,od,kV,doc,pm,an,ct,osl,lkF,hcd⟩:=T.fn
 have X:K.In s.heap:=M.kin.keeps hb
 refine ks_codeAny_call_defAt (fd:=ksFn "__init__" qual params [J0 p0 p1 p2 p3 p4 msg] scope .none kV doc pm an (.ref cda) ct cc) (body:=[J0 p0 p1 p2 p3 p4 msg]) (binds:=[("self",.ref x)]) hroom (X _ _ lkF) rfl hlim (codeRec_of X hcd) rfl (hbind _ _ _ _ _) hcell
  (fun y hy=>?_) (fun h₁ hns hk₁=>?_) hco hgen hk
 ·have e:y=(("self" : Str),Value.ref x):=List.mem_singleton.mp hy
  rw [e]
  exact hka
 ·show wpAt _ _ _ (execs [J0 p0 p1 p2 p3 p4 msg] (ksEnv qual scope s.heap.objs.size fI (.ref cda) cc)) _ _ _
  have f:=hf s.heap.objs.size
  refine ks_wpAt_execs_cons (Su (s:={ s with heap:=h₁,toks:=s.toks + 1 }) T (fun b o e=>hk₁ b o (hb b o e)) M (hk₁ _ _ hx) (fun d e=>by cases e) hns rfl har hself' hks hkc hka hk (fun s' hs'=>hmsg s.heap.objs.size _ _ s' hs') f.st f.sw f.ev fun h' tk t1 k1 e1=>?_)
  refine wpAt_of_wpAny (wpAny_execs_nil ?_)
  exact hq h' tk t1 ⟨fun b o hbx e=>k1 b o hbx (hk₁ b o e),e1,fun dx e=>by cases e⟩
end
end PySem.FX
namespace PySem.FX
open PySem PySem.W PySem.Calls PyProof.Rows PySem.Spec
section
variable {prog:Program} {w:World} {A:Around} {E:Value→Shared→Prop} {s:Shared} {K:Frag} {mg:Str→Option Value} {C fI cc cda:Addr} {qual:Str} {params:Arguments} {body:List Stmt} {scope:Scope}
variable {R:Result→Shared→Prop} {base:Heap}
structure XNew (h h':Heap) (e C:Addr) (dv:Option Addr) (fv:List (Str × Value)):Prop where
 keep:∀ b o,h.get? b=some o→h'.get? b=some o
 new:h.objs.size≤e
 obj:∃ oe vs,h'.get? e=some oe∧oe.cls=.ref C∧oe.dict=dv∧oe.data=.fields vs∧vs[1]? = some .none∧vs[2]? = some .none
 none':dv=none→fv=[]
 dct:∀ d,dv=some d→h.objs.size≤d∧d≠e∧h'.Ns1 d (fun y=>fv.lookup y)
def XMk(prog:Program)(w:World)(K:Frag)(mg:Str→Option Value)(base:Heap)(C:Addr)(fs:List Str)(ok:List L2.V→Prop):Prop:=
 ∀ (A:Around) (R:Result→Shared→Prop) (s:Shared) (vs:List L2.V) (us:List Value),L2.Vals vs us→vs.length=fs.length→ok vs→(∀ b o,base.get? b=some o→s.heap.get? b=some o)→L2.Mod K mg base→s.heap.NoLimit→A.depth + 1 < recursionLimit →
  (∀ h' tk e dv,XNew s.heap h' e C dv (fs.zip us)→(dv=none ↔ fs=[])→R (.ok (.ret (.ref e))) { s with heap:=h',toks:=tk })→codeAny (model prog w) A (.call (.ref C) ⟨us,[]⟩) R s
theorem mk0{p0 p1 p2 p3 p4:Pos}{msg:PySem.Expr}{ar:Arg}(T:XTxt prog K mg C fI cc cda qual params [J0 p0 p1 p2 p3 p4 msg] scope)(har:(params.posonlyargs ++ params.args).head? = some ar)(hself':ar.arg = "self")
  (hbind:∀ s x kV doc pm an ct,BindsTo s (ksFn "__init__" qual params [J0 p0 p1 p2 p3 p4 msg] scope .none kV doc pm an (.ref cda) ct cc) ⟨[.ref x],[]⟩ [("self",.ref x)])
  (hcell:∀ y∈scope.names,y.2≠.cell) (hks:scope.names.lookup ("super" : Str)=some .globalImplicit) (hkc:scope.names.lookup ("__class__" : Str)=some .free) (hka:scope.names.lookup ("self" : Str)=some .local) (hk:scope.kind=.function)
  (hco:scope.isCoroutine=false) (hgen:scope.isGenerator=false)
  (hf:∀ L,XForm (ksEnv qual scope L fI (.ref cda) cc) p0 p1 p2 p3 p4 msg) (hmsg:∀ L x,QI prog w (ksEnv qual scope L fI (.ref cda) cc) (fun y=>[(("self" : Str),Value.ref x)].reverse.lookup y) msg):
  XMk prog w K mg base C [] (fun _=>True):=by
 intro A R s vs us hr hl _ hb M hlim hroom hq
 have eu:vs=[]:=List.length_eq_zero_iff.mp hl
 subst eu
 cases hr
 obtain ⟨nm,q,N,bs,bm,sn,sub,ab,col,dd,k0,k1,k2,k3,k5,hC,hbm⟩:=T.cls
 have X:K.In s.heap:=M.kin.keeps hb
 obtain ⟨hp,g,dr,tk,os⟩:=s
 have k:∀ b o,hp.get? b=some o→((hp.push (kdv_tup [])).push (HandSPX.excO C hp.objs.size)).get? b=some o:=fun b o e=>Heap.get?_push_of_some _ (Heap.get?_push_of_some _ e)
 have hget:((hp.push (kdv_tup [])).push (HandSPX.excO C hp.objs.size)).get? (hp.objs.size + 1)=some (HandSPX.excO C hp.objs.size):=by heap_get
 refine HandSPX.call_own F.excBase_ValueError (fun X=>HandSPX.refsVE_contains X bm hbm) (X _ _ hC) (looks_findIn X T.iC) (fun self=>bind_fn X self T.tI) (by show 0≤sizeLine; exact Nat.zero_le _) ?_
 refine YR (s:=⟨(hp.push (kdv_tup [])).push (HandSPX.excO C hp.objs.size),g,dr,tk,os⟩) T (fun b o e=>k b o (hb b o e)) M hget (hlim.keeps k) ?_ har hself' (fun kV doc pm an ct=>hbind _ _ kV doc pm an ct) hcell hks hkc hka hk hco hgen hf (fun L=>hmsg L _) fun h' tk' t1 xe=>?_
 ·show A.depth + 1 < recursionLimit
  exact hroom
 ·have old:∀ b o,hp.get? b=some o→h'.get? b=some o:=fun b o e=>xe.keep b o (Nat.ne_of_lt (Nat.lt_succ_of_lt (Heap.lt_size e))) (k b o e)
  exact ⟨rfl,hq h' tk' (hp.objs.size + 1) none ⟨old,Nat.le_succ _,⟨_,_,xe.obj,rfl,rfl,rfl,rfl,rfl⟩,fun _=>rfl,fun d e=>by cases e⟩ ⟨fun _=>rfl,fun _=>rfl⟩⟩
end
end PySem.FX
namespace PySem.FX
open PySem PySem.W PySem.Calls PyProof.Rows PySem.Spec
section
variable {prog:Program} {w:World} {env:PySem.Env} {m:Str→Option Value}
theorem Sy{x:Str}{k:Nat}{pos:Pos}:QI prog w env m (.Constant (.str x) k pos):=fun A E s' hn=>wpAny_Constant_str ⟨x,_,_,rfl,rfl⟩
end
end PySem.FX
namespace L2
open PySem PySem.Spec PyProof.Rows
theorem ON{f:Str}:∀ {fs:List Str} {vs:List V} {us:List Value},Vals vs us→RelO (List.lookup f (fs.zip vs)) (List.lookup f (fs.zip us))
 | [],_,_,_=>trivial
 | _ :: _,_,_,.nil=>trivial
 | g :: fs,_,_,.cons (a:=v) (l₁:=vs) (b:=u) (l₂:=us) r rs=>by
  show RelO (List.lookup f ((g,v) :: fs.zip vs)) (List.lookup f ((g,u) :: fs.zip us))
  rw [List.lookup,List.lookup]
  cases f == g with
  | true=>exact r
  | false=>exact ON rs
section
variable {X:Cx} {C:Addr} {fs:List Str} {ok:List V→Prop}
def ZC(C:Addr)(fs:List Str)(ok:List V→Prop)(ta:TA):St→Hp→XK→Prop:=fun σ H Q=>ta σ H fun vs H1=>vs.length=fs.length∧ok vs∧(fs=[]→Q (.ref C) none H1)∧(fs≠[]→∀ d,H1 d=none→Q (.ref C) (some d) (upd H1 d (.xd (fs.zip vs))))
structure MkC (X:Cx) (x:Str) (C:Addr) (fs:List Str) (ok:List V→Prop):Prop where
 mkc:PySem.FX.XMk X.prog X.w X.K X.mg X.base C fs ok
 gC:X.mg x=some (.ref C)
 kC:PySem.W.keepIn X.K (.ref C)=true
 exC:PySem.W.subIn X.K (.ref C) (.type "BaseException")=some true
 tyC:PySem.W.typeIn X.K (.ref C)=some (.type "type")
theorem Y3{x:Str}{k:Nat}(T:MkC X x C fs ok)(hr:Room k X.A){pins:List (Addr × Obj)}{σ:St}{H1:Hp}{s1:Shared}{Q:XK}{vs:List V}{us:List Value}(I1:Inv X pins σ H1 s1)(r1:Vals vs us)(hk:2≤k)
  (hl:vs.length=fs.length) (hok:ok vs) (q0:fs=[]→Q (.ref C) none H1) (q1:fs≠[]→∀ d,H1 d=none→Q (.ref C) (some d) (upd H1 d (.xd (fs.zip vs)))):
  wpAny (model X.prog X.w) X.A (call (.ref C) us) (L2N.MkP X pins σ Q) X.xe s1:=by
 have hlim:=I1.nolimit
 obtain ⟨hp,g,dr,tk,os⟩:=s1
 refine wpAny_call (T.mkc X.A _ ⟨hp,g,dr,tk,os⟩ vs us r1 hl hok (fun b o e=>(I1.bk b o e)) I1.ok.mod hlim (by have:=hr.dp; omega) fun h' tk' e dv M hdv=>?_)
 show L2N.MkP X pins σ Q (.ref e) ⟨h',g,dr,tk',os⟩
 obtain ⟨oe,fv,hoe,hc,hd,hdat,h1,h2⟩:=M.obj
 have hcx:PXN.CtxN oe:=fun vs e=>by
  rw [hdat] at e
  cases e
  exact h2
 cases dv with
 | none=>
  obtain ⟨G',g1,g2⟩:=restrict h' fun b=>decide (b≠e)
  have gk:∀ b,b≠e→G'.get? b=h'.get? b:=fun b hb=>g1 b (decide_eq_true hb)
  have ge:G'.get? e=none:=g2 e (by simp)
  have old:∀ b o,hp.get? b=some o→G'.get? b=some o:=fun b o q=>(gk b (Nat.ne_of_lt (Nat.lt_of_lt_of_le (Heap.lt_size q) M.new))).trans (M.keep b o q)
  have J:Inv X pins σ H1 ⟨G',g,dr,tk',os⟩:=I1.kept old
  refine ⟨e,oe,fv,⟨G',g,dr,tk',os⟩,_,.ref C,none,rfl,J,fun b o q=>?_,ge,hoe,⟨hc,hd,hcx⟩,hdat,h1,?_,rfl,I1.bare,raises_own T.exC T.tyC,q0 (hdv.mp rfl)⟩
  ·by_cases hb:b=e
   ·have q':G'.get? b=some o:=q
    rw [hb,ge] at q'; cases q'
   ·exact (gk b hb).symm.trans q
  ·exact I1.hok.fresh M.new
 | some d=>
  obtain ⟨d1,d2,hns⟩:=M.dct d rfl
  obtain ⟨G',g1,g2⟩:=restrict h' fun b=>decide (b≠e)
  have gk:∀ b,b≠e→G'.get? b=h'.get? b:=fun b hb=>g1 b (decide_eq_true hb)
  have ge:G'.get? e=none:=g2 e (by simp)
  have old:∀ b o,hp.get? b=some o→G'.get? b=some o:=fun b o q=>(gk b (Nat.ne_of_lt (Nat.lt_of_lt_of_le (Heap.lt_size q) M.new))).trans (M.keep b o q)
  have ob:ObjOk X.prog X.w (upd H1 d (.xd (fs.zip vs))) G' d (.xd (fs.zip vs)):=
   ⟨_,hns.at (fun o q=>(gk d d2).trans q),fun f=>ON r1⟩
  have J:Inv X pins σ (upd H1 d (.xd (fs.zip vs))) ⟨G',g,dr,tk',os⟩:=I1.laid (t':=tk') old d1 ob
  refine ⟨e,oe,fv,⟨G',g,dr,tk',os⟩,_,.ref C,some d,rfl,J,fun b o q=>?_,ge,hoe,⟨hc,hd,hcx⟩,hdat,h1,?_,rfl,I1.bare,raises_own T.exC T.tyC,q1 (fun z=>by cases hdv.mpr z) d (I1.hok.fresh d1)⟩
  ·by_cases hb:b=e
   ·have q':G'.get? b=some o:=q
    rw [hb,ge] at q'; cases q'
   ·exact (gk b hb).symm.trans q
  ·rw [upd_ne (Ne.symm d2)]
   exact I1.hok.fresh M.new
theorem YX{x:Str}{p pos:Pos}{k:Nat}(T:MkC X x C fs ok)(hr:Room k X.A)(hk:2≤k)(hg:Gl X x)(hd:(x == ("__debug__" : Str))=false:=by decide):
  L2N.PMk X (.Call (.Name x p) [] [] pos) (ZC C fs ok tNil):=by
 intro pins s σ H Q I h
 refine wpAny_Call_Name_kw (ld_glob I hg T.gC ?_ hd)
 obtain ⟨hl,hok,q0,q1⟩:=h
 exact PySem.W.callWith_K0 I.kIn T.kC (Y3 (us:=[]) T hr I .nil hk hl hok q0 q1)
end
end L2
namespace L2
open PySem PyProof.Rows PySem.Spec
def Z3(K:PySem.W.Frag)(D a:Addr)(d:Option Addr):List V→Hp→VK→Prop:=fun xs H Q=>∃ (c:V) (cv:Value) (b:Bool),xs=[.ref a,c]∧(∀ d',d=some d'→∃ fs,H d'=some (.xd fs))∧(∀ u,RelV c u→u=cv)∧PySem.W.kitOne K (.ref D) cv=some b∧Q (.bl b) H
theorem U9{X:Cx}{a D:Addr}{d:Option Addr}{oe:Obj}{pn:List (Addr × Obj)}(C:ExcC X.K D)(hz:L2N.Zn (.ref D) d oe)(hf:∃ vs,oe.data=.fields vs):CallR (X.suite a ((a,oe) :: pn)) (.builtin "isinstance") (Z3 X.K D a d):=by
 intro ps s0 st H xs us Q I rr hyp
 obtain ⟨c,cv,b,rfl,hdd,hcv,eb,q⟩:=hyp
 obtain ⟨vs,hv⟩:=hf
 match us,rr with
 | [_,_],.cons rx (.cons rt .nil)=>
  cases rx
  have ec:=hcv _ rt
  subst ec
  have hget:=(I.pin (a,oe) (List.mem_append_left _ List.mem_cons_self)).1
  have J:∃ odd,PySem.W.InstAt s0.heap a oe D odd:=by
   cases d with
   | none=>exact ⟨none,hget,hz.1,by unfold PySem.W.notCls; rw [hv] <;> rfl,by rw [hz.2.1]; trivial⟩
   | some dd=>
    obtain ⟨fs,ea⟩:=hdd dd rfl
    obtain ⟨mA,hns,_⟩:=(I.hok dd _ ea:ObjOk X.prog X.w H s0.heap dd (.xd fs))
    obtain ⟨od,ho,_⟩:=lookIn_ns hns
    exact ⟨some od,hget,hz.1,by unfold PySem.W.notCls; rw [hv] <;> rfl,by rw [hz.2.1]; exact ho⟩
  obtain ⟨odd,J⟩:=J
  have hcl:(PySem.W.clsIn X.K D).isSome=true:=by
   obtain ⟨cd,hc,_⟩:=PySem.W.any_some C.hd
   rw [hc]
   rfl
  exact PySem.W.kia_one (PySem.W.kitx_exc (od:=odd) hcl C.hg C.hk C.hs C.ha C.hn C.ht C.hm) I.kIn J eb (fun z=>nomatch z) fun tk=>⟨.bl b,H,I.kept (t':=tk) fun _ _ z=>z,rfl,q⟩
end L2
namespace FD
open PySem L2 PyProof.Rows PySem.Spec
def XN(K:PySem.W.Frag)(μ:Mu)(A:Ad)(H:Hp)(Q:VK)(E:XK)(o:Out Dt):Prop:=match o with
 | .ok d=>∀ v H',Same H H'→Rep ⟨K,μ⟩ H' A d v→Q v H'
 | .exc x=>∀ c od H',Same H H'→Kb K H' x c od→E c od H'
 | .bad=>False
def YI(K:PySem.W.Frag)(φ:List Dt→Out Dt):Sp:=fun vs H Q E=>∃ (ds:List Dt) (A:Ad) (μ:Mu),Ag ⟨K,μ⟩ H A ds vs∧(∀ a,A a→Mut (H a))∧XN K μ A H Q E (φ ds)
def D4(n:Nat)(φ:List Dt→Out Dt)(ds:List Dt):Out Dt:=if ds.length=n then φ ds else .bad
structure ClR (P:Program) (w:World) (K:PySem.W.Frag) (mg:Str→Option Value) (base:Heap) (x:Str) (k:Nat) (φ:List Dt→Out Dt):Prop where
 ex:∃ (f:Addr),FnR P w K mg base (L2N.CX P w) k f (YI K φ)∧mg x=some (.ref f)∧PySem.W.keepIn K (.ref f)=true
section
variable {P:Program} {w:World} {K:PySem.W.Frag} {mg:Str→Option Value} {base:Heap} {H:Hp} {A:Ad}
theorem CG{x:Str}{f:Addr}{fd:FuncData}{ps:List Str}{k n:Nat}{φ:List Dt→Out Dt}(F:FnOk P w K mg base (L2N.CX P w) k f fd ps (Cw K n φ))(hm:mg x=some (.ref f))(hk:PySem.W.keepIn K (.ref f)=true)(hb:Binds K fd ps []):ClR P w K mg base x k (D4 n φ):=by
 refine ⟨f,FnR.imp (F.raw hb .nil) (fun vs H Q E h=>?_),hm,hk⟩
 obtain ⟨ds,A,μ,r,ha,h⟩:=h
 unfold D4 at h
 by_cases hl:ds.length=n
 ·rw [if_pos hl] at h
  exact ⟨ds,A,μ,by rw [List.append_nil]; exact r,hl,ha,h⟩
 ·rw [if_neg hl] at h
  exact False.elim h
end
section
variable {X:Cx} {W:WX} {e:Expr} {es:List Expr} {fs:Env→Out (List Dt)} {fe:Env→Out Dt} {lk:List Nat} {p pos sps:Pos} {φ:List Dt→Out Dt}
def Ao(φ:List Dt→Out Dt)(f:Env→Out (List Dt)):Env→Out Dt:=fun ρ=>(f ρ).bind φ
def Uu(sp:Sp)(E:L2.St→XK)(t:TA):TE:=fun σ H Q=>t σ H fun vs H1=>sp vs H1 Q (E σ)
theorem Ta{K:PySem.W.Frag}{ta:TA}(ha:Q1 K W ta fs lk):DZ K W (Uu (YI K φ) (WE W) ta) (Ao φ fs) lk:=by
 intro μ H0 A0 ρ σ H Q s h
 refine ha _ _ _ _ _ _ _ s (h.seq fun ds _ h1 vs H1 s1 r1=>?_)
 refine ⟨ds,Av ⟨K,μ⟩ A0 ρ σ lk,μ,r1,fun a z=>(s.grow s1).Ez z,?_⟩
 unfold XN
 cases eo:φ ds with
 | ok d=>rw [eo] at h1; exact fun v H' s' r=>h1 v H' (s1.trans s') r
 | exc x=>rw [eo] at h1; exact fun c od H' s' r=>h1 c od H' (s1.trans s') r
 | bad=>rw [eo] at h1; exact h1
theorem OV{CX:CXT}{k:Nat}{f:Addr}{sp:Sp}{E:L2.St→XK}{Q:VK}{pins:List (Addr × Obj)}{σ:L2.St}{H:Hp}{s:Shared}{us:List Value}{vs:List V}(F:FnR X.prog X.w X.K X.mg X.base CX k f sp)(hr:Room k X.A)(hx:PassesAt CX X σ (E σ))(I:Inv X pins σ H s)(r:Vals vs us)(h:sp vs H Q (E σ)):
  wpAny (model X.prog X.w) X.A (call (.ref f) us) (EP X pins σ Q) X.xe s:=by
 refine wpAny_call (codeAny_mono (F X.A X.stack s H us vs Q (E σ) hr I.env0 r h) fun r s' hq=>?_)
 cases r with
 | error e=>exact hx pins H s e s' I hq
 | ok fl=>
  cases fl with
  | ret u=>exact I.after hq
  | next=>exact False.elim hq
  | brk=>exact False.elim hq
  | cont=>exact False.elim hq
theorem Aw{x:Str}{k j:Nat}(c:ClR X.prog X.w X.K X.mg X.base x k φ)(tk:L2N.Takes X W)(hr:Room j X.A)(hk:k≤j)(hg:Gl X x)(ha:JR X W (e :: es) fs lk)(hdb:(x == ("__debug__" : Str))=false:=by decide)
  (he:starEach (e :: es) X.env=(false,eval e X.env) :: starEach es X.env:=by rfl) (hpl:(backTo pos (starEach es X.env)).any (·.1)=false:=by rfl):Bp X W (.Call (.Name x p) (e :: es) [] pos) (Ao φ fs) lk:=by
 obtain ⟨f,F,hm,kp⟩:=c.ex
 obtain ⟨ta,pa,da⟩:=ha
 refine ⟨_,⟨fun pins s σ H Q I h=>?_⟩,Ta da⟩
 refine wpAny_Call_Name_kw (ld_glob I hg hm ?_ hdb)
 refine PySem.W.callWith_K (h₀:=X.base) I.ok.mod.kin kp (thn (pa.run pos pins s σ H _ I h) fun us s1 ⟨vs,H1,I1,r,q⟩=>⟨I1.kIn,?_⟩) he hpl
 exact OV F (hr.mono hk) (L2N.passAt tk σ) I1 r q
end
def Fq(C:Addr)(fns:List Str)(g:List Dt→Bool)(f:Env→Out (List Dt)):Env→SOut:=fun ρ=>F8 (f ρ) ρ fun ds=>if ds.length=fns.length∧Dt.CA ds=true∧g ds=true then .exc ⟨C,fns.zip ds⟩ ρ else .bad
def OkV(K:PySem.W.Frag)(g:List Dt→Bool)(ok:List V→Prop):Prop:=∀ (μ:Mu) H A ds vs,Ag ⟨K,μ⟩ H A ds vs→g ds=true→ok vs
theorem Nz{α:Type}:∀ {fs:List Str} {ds:List α},ds.length=fs.length→(fs.zip ds).map (·.1)=fs
 | [],[],_=>rfl
 | f :: fs,d :: ds,h=>by
  show f :: (fs.zip ds).map (·.1)=f :: fs
  rw [Nz (by simpa using h)]
theorem Ky{α:Type}:∀ {fs:List Str} {ds:List α},ds.length=fs.length→(fs.zip ds).map (·.2)=ds
 | [],[],_=>rfl
 | f :: fs,d :: ds,h=>by
  show d :: (fs.zip ds).map (·.2)=d :: ds
  rw [Ky (by simpa using h)]
section
variable {K:PySem.W.Frag} {κ:KM} {μ:Mu} {W:WX} {H0 H H1:Hp} {A0:Ad} {ρ:Env} {σ:L2.St} {lk la lb:List Nat} {α:Type}
theorem Sx{C:Addr}{fns:List Str}{g:List Dt→Bool}{ok:List V→Prop}{ta:TA}{f:Env→Out (List Dt)}(hok:OkV K g ok)(ha:Q1 K W ta f lk):F7 K W (fun _ σ H=>ZC C fns ok ta σ H fun cls d H'=>W cls d σ H') (Fq C fns g f):=by
 intro μ H0 A0 ρ σ H D s h
 refine ha _ _ _ _ _ _ _ s (AK.st s h fun ds _ h1 vs H1 s1 r1=>?_)
 split at h1
 ·rename_i hc
  obtain ⟨hl,hp,hg⟩:=hc
  have lv:vs.length=fns.length:=r1.length.trans hl
  have rN:Ag ⟨K,⟨[],true⟩⟩ H1 TN ds vs:=Ag.Hi (fun _ z=>False.elim z) _ _ hp r1
  refine ⟨lv,hok _ _ _ _ _ r1 hg,fun e=>?_,fun ne d hd=>?_⟩
  ·subst e
   have e1:ds=[]:=List.length_eq_zero_iff.mp hl
   subst e1
   exact h1 _ σ H1 _ _ (Xt.refl _) (s.grow s1) ⟨rfl,rfl,rfl⟩
  ·refine h1 _ σ _ _ _ (Xt.refl _) (s.grow (s1.trans (Same.new hd))) ⟨rfl,?_,_,upd_same,?_,?_⟩
   ·show Dt.CA ((fns.zip ds).map (·.2))=true
    rw [Ky hl]
    exact hp
   ·show (fns.zip vs).map (·.1)=(fns.zip ds).map (·.1)
    rw [Nz lv,Nz hl]
   ·show Ag ⟨K,⟨[],true⟩⟩ _ TN ((fns.zip ds).map (·.2)) ((fns.zip vs).map (·.2))
    rw [Ky lv,Ky hl]
    exact rN.same (Same.new hd)
 ·exact False.elim h1
end
section
variable {X:Cx} {W:WX} {e:Expr} {es:List Expr} {fs:Env→Out (List Dt)} {lk:List Nat} {p pos pos2:Pos} {C:Addr} {fns:List Str} {g:List Dt→Bool} {ok:List V→Prop}
theorem Pa{x:Str}{k:Nat}(hc:X.calm=true)(T:MkC X x C fns ok)(hok:OkV X.K g ok)(tk:L2N.Takes X W)(hr:Room k X.A)(hk:2≤k)(hg:Gl X x)(hd:(x == ("__debug__" : Str))=false:=by decide):Kd X W (.Raise (some (.Call (.Name x p) [] [] pos)) none pos2) (Fq C fns g Ah):=
 ⟨_,L2N.ps_raise hc tk (YX T hr hk hg hd),Sx hok RG⟩
end
def cS(K:PySem.W.Frag)(W:WX)(g:Env→SOut):TS:=fun D σ H=>∃ (μ:Mu) (H0:Hp) (A0:Ad) (ρ:Env),StOk ⟨K,μ⟩ H0 A0 H ρ σ∧AK K W μ H0 A0 (g ρ) D
theorem F0.Kl{X:Cx}{W:WX}{ss:List Stmt}{g:Env→SOut}(h:F0 X W ss g):PSs X ss (cS X.K W g):=by
 obtain ⟨ts,hp,hd⟩:=h
 exact ⟨fun pins s σ H D I ⟨μ,H0,A0,ρ,so,po⟩=>hp.run pins s σ H D I (hd μ H0 A0 ρ σ H D so po)⟩
open Classical in
noncomputable def FJ(x:Exn)(run:Addr→Option Addr→SOut):SOut:=if ∃ r,∀ a d,(d=none→x.fs=[])→run a d=r then run 0 (if x.fs=[] then none else some 0) else .bad
theorem SG{x:Exn}{run:Addr→Option Addr→SOut}{r:SOut}(h:∀ a d,(d=none→x.fs=[])→run a d=r):FJ x run=r:=by
 unfold FJ
 rw [if_pos ⟨r,h⟩]
 refine h _ _ fun e=>?_
 split at e
 ·assumption
 ·cases e
theorem Se{x:Exn}{run:Addr→Option Addr→SOut}{r:SOut}(h:∀ a d,run a d=r):FJ x run=r:=SG fun a d _=>h a d
theorem SK{x:Exn}{run:Addr→Option Addr→SOut}(hb:FJ x run≠.bad)(a:Addr)(d:Option Addr)(hd:d=none→x.fs=[]):run a d=FJ x run:=by
 unfold FJ at hb ⊢
 split
 ·rename_i h
  obtain ⟨r,h⟩:=h
  rw [h a d hd,h]
  intro e
  split at e
  ·assumption
  ·cases e
 ·rename_i h
  rw [if_neg h] at hb
  exact absurd rfl hb
def unset(i:Nat):SOut→SOut
 | .ok f ρ=>.ok f (ρ.set i none)
 | _=>.bad
@[simp] theorem Gv(i:Nat)(d:Dt)(ρ:Env):unset i (.ok (.rt d) ρ)=.ok (.rt d) (ρ.set i none):=rfl
def P8(x:Exn)(a:Addr)(d:Option Addr):Dt:=.exn a d x.cls (x.fs.map (·.1)) (x.fs.map (·.2))
section
variable {K:PySem.W.Frag} {κ:KM} {μ:Mu} {W:WX} {H0 H H1:Hp} {A0:Ad} {ρ:Env} {σ:L2.St} {lk la lb:List Nat}
theorem V5{i j:Nat}{l:Lo}{a:Addr}(e:(ρ.set i none)[j]? = some (some l))(ho:Bq κ l (σ.set i none)[j]? a):AH κ ρ σ j a:=by
 by_cases h:i=j
 ·subst h
  by_cases hl:i < ρ.length
  ·rw [List.getElem?_set_self hl] at e; cases e
  ·rw [List.getElem?_eq_none (by rw [List.length_set]; omega)] at e; cases e
 ·rw [List.getElem?_set_ne h] at e ho
  exact ⟨l,e,ho⟩
theorem WC{x:Exn}{a:Addr}{d:Option Addr}{A:Ad}(hA:∀ a,A a→Mut (H a))(h:Kb K H x (.ref x.cls) d):Rep ⟨K,μ⟩ H A (P8 x a d) (.ref a):=by
 obtain ⟨_,hp,h⟩:=h
 unfold P8 Rep
 cases d with
 | none=>
  have e:x.fs=[]:=h
  refine ⟨[],rfl,.inl ⟨rfl,rfl⟩,by rw [e]; rfl,?_⟩
  rw [e]
  exact Ag.nil
 | some d=>
  obtain ⟨fs,h1,h2,h3⟩:=h
  refine ⟨fs,rfl,.inr ⟨d,rfl,fun z=>?_,h1⟩,h2,Ag.Hi hA _ _ hp h3⟩
  have q:=hA d z
  rw [h1] at q
  exact q
end
section
variable {X:Cx} {W:WX} {x n:Str} {c:Value} {i:Nat} {body suite:List Stmt} {b₀:Stmt} {np pos pos':Pos} {g:Env→SOut}
end
theorem takes0{X:Cx}:L2N.Takes X W0:=fun _ _ ⟨_,_,_,_,_,_,_,_,_,_,_,_,_,_,_,_,w⟩=>False.elim w
def DB(K:PySem.W.Frag)(D a:Addr)(od:Option Addr):List Dt→Option Dt
 | [.exn b d C _ _,c]=>if b=a∧d=od∧C=D then (match c with
  | .cls C'=>(PySem.W.kitOne K (.ref D) (.ref C')).map fun b=>.bl b
  | .ty n=>(PySem.W.kitOne K (.ref D) (.type n)).map fun b=>.bl b
  | _=>none) else none
 | _=>none
section
variable {K:PySem.W.Frag} {κ:KM} {μ:Mu} {W:WX} {H0 H H1:Hp} {A0 A:Ad} {ρ:Env} {σ:L2.St} {lk la lb:List Nat}
theorem WV{D a:Addr}{od:Option Addr}:P9 K (Z3 K D a od) (DB K D a od):=by
 intro μ H A ds d vs Q ha r e q
 unfold DB at e
 split at e
 ·rename_i b d' C ns fs c
  split at e
  case isFalse=>cases e
  rename_i hc
  obtain ⟨rfl,rfl,rfl⟩:=hc
  obtain ⟨v,u,rfl,r1,r2⟩:=PY r
  unfold Rep at r1
  obtain ⟨xs,rfl,h1,_⟩:=r1
  have hdd:∀ d1,d'=some d1→∃ fs,H d1=some (.xd fs):=fun d1 e1=>by
   rcases h1 with ⟨e2,_⟩ | ⟨d2,e2,_,h2⟩
   ·rw [e1] at e2; cases e2
   ·rw [e1] at e2
    cases e2
    exact ⟨_,h2⟩
  split at e
  ·rename_i C'
   have e2:u=.ref C':=r2
   subst e2
   cases hk:PySem.W.kitOne K (.ref C) (.ref C') with
   | none=>rw [hk] at e; cases e
   | some k=>
    rw [hk] at e
    cases e
    exact ⟨.ref C',.ref C',k,rfl,hdd,fun _ z=>z,hk,RE.now q rfl⟩
  ·rename_i n
   have e2:u=.ty n:=r2
   subst e2
   cases hk:PySem.W.kitOne K (.ref C) (.type n) with
   | none=>rw [hk] at e; cases e
   | some k=>
    rw [hk] at e
    cases e
    exact ⟨.ty n,.type n,k,rfl,hdd,fun _ z=>z,hk,RE.now q rfl⟩
  ·cases e
 ·cases e
theorem To{D a:Addr}{od:Option Addr}:∀ ds d,DB K D a od ds=some d→d.scal=true:=fun ds d e=>by
 unfold DB at e
 split at e
 ·split at e
  case isFalse=>cases e
  split at e
  ·rename_i C'
   cases hk:PySem.W.kitOne K (.ref D) (.ref C') with
   | none=>rw [hk] at e; cases e
   | some k=>rw [hk] at e; cases e; rfl
  ·rename_i n
   cases hk:PySem.W.kitOne K (.ref D) (.type n) with
   | none=>rw [hk] at e; cases e
   | some k=>rw [hk] at e; cases e; rfl
  ·cases e
 ·cases e
end
section
variable {X:Cx} {W:WX} {e e2:Expr} {fs:Env→Out (List Dt)} {fe:Env→Out Dt} {lk:List Nat} {pos p:Pos} {a D:Addr} {oe:Obj} {d:Option Addr} {pn:List (Addr × Obj)}
theorem JG(hz:L2N.Zn (.ref D) d oe)(hf:∃ vs,oe.data=.fields vs)(C:ExcC X.K D)(hg:Gl X "isinstance")(hm:X.mg "isinstance" = none)(ha:JR (X.suite a ((a,oe) :: pn)) W [e,e2] fs lk)(he:starEach [e,e2] X.env=(false,eval e X.env) :: starEach [e2] X.env:=by rfl)(hpl:(backTo pos (starEach [e2] X.env)).any (·.1)=false:=by rfl):
  Bp (X.suite a ((a,oe) :: pn)) W (.Call (.Name "isinstance" p) [e,e2] [] pos) (eB (DB X.K D a d) fs) []:=by
 obtain ⟨ta,pa,da⟩:=ha
 exact ⟨_,pe_callB (X:=X.suite a ((a,oe) :: pn)) (U9 C hz hf) hg hm PyProof.Rows.boot_isinstance pa (by decide) (by decide) he hpl,Ew WV To da⟩
end
end FD
namespace FD
open PySem L2 PyProof.Rows PySem.Spec
def cE(K:PySem.W.Frag)(W:WX)(f:Env→Out Dt)(lk:List Nat):TE:=fun σ H Q=>∃ (μ:Mu) (H0:Hp) (A0:Ad) (ρ:Env),StOk ⟨K,μ⟩ H0 A0 H ρ σ∧Ce K W H σ (f ρ) (RE ⟨K,μ⟩ (Av ⟨K,μ⟩ A0 ρ σ lk) H Q)
def cT(K:PySem.W.Frag)(W:WX)(f:Env→Out Bool):TT:=fun σ H Q=>∃ (μ:Mu) (H0:Hp) (A0:Ad) (ρ:Env),StOk ⟨K,μ⟩ H0 A0 H ρ σ∧Ce K W H σ (f ρ) (RT H Q)
def cG(K:PySem.W.Frag)(u:Dt→Env→Option Env)(S:List Nat):TG:=fun v σ H Q=>∃ (μ:Mu) (H0:Hp) (A0:Ad) (ρ ρ':Env) (d:Dt),StOk ⟨K,μ⟩ H0 A0 H ρ σ∧Rep ⟨K,μ⟩ H (Av ⟨K,μ⟩ A0 ρ σ []) d v∧u d ρ=some ρ'∧(∀ σ',StOk ⟨K,μ⟩ H0 A0 H ρ' σ'→(∀ a,Av ⟨K,μ⟩ A0 ρ' σ' [] a→Av ⟨K,μ⟩ A0 ρ σ [] a)→Zb S ρ ρ' σ σ'→Q σ' H)
def PF(X:Cx)(W:WX)(es:List Expr)(f:Env→Out Bool)(lk:List Nat):Prop:=∃ tt,PTs X es tt∧OU X.K W tt f lk
section
variable {X:Cx} {W:WX} {e:Expr} {es:List Expr} {f:Env→Out Dt} {t:Env→Out Bool} {u:Dt→Env→Option Env} {S lk lt le:List Nat}
theorem Bp.Kl(h:Bp X W e f lk):PE X e (cE X.K W f lk):=by
 obtain ⟨te,pe,de⟩:=h
 exact ⟨fun pins s σ H Q I ⟨μ,H0,A0,ρ,so,po⟩=>pe.run pins s σ H Q I (de μ H0 A0 ρ σ H Q so po)⟩
theorem PF.Kl(h:PF X W es t lk):PTs X es (cT X.K W t):=by
 obtain ⟨te,pe,de⟩:=h
 exact ⟨fun pins s σ H Q I ⟨μ,H0,A0,ρ,so,po⟩=>pe.run pins s σ H Q I (de μ H0 A0 ρ σ H Q so po)⟩
theorem TF.Kl(h:TF X e u S):PG X e (cG X.K u S):=by
 obtain ⟨g,pg,dg⟩:=h
 refine ⟨fun pins s σ H v u' Q I r ⟨μ,H0,A0,ρ,ρ',d,so,rr,eu,q⟩=>?_⟩
 exact pg.run pins s σ H v u' Q I r (dg μ H0 A0 ρ ρ' σ H d v Q so rr eu q)
def AD:Env→Out Bool:=fun _=>.ok true
theorem Ct:PF X W [] AD []:=⟨_,pts_nil,fun μ H0 A0 ρ σ H Q s h=>h H (Same.refl H)⟩
theorem Ie{elt tg iter:Expr}{ifs:List Expr}{scope:Scope}{pos:Pos}{src:Env→Out (List Dt)}(own:List (Str × Nat))(hc:X.calm=true)(hN:X.N.Nodup)(hi:Zg X W tg iter src lk)
  (hg:∀ (s:Shared) (H:Hp) (C:Addr) (cl:List (Str × Addr)) (fp:List Addr),TF (X.blk s H scope (compEnvC scope cl C X.env) fp) tg u S)
  (ht:∀ (s:Shared) (H:Hp) (C:Addr) (cl:List (Str × Addr)) (fp:List Addr),PF (X.blk s H scope (compEnvC scope cl C X.env) fp) W0 ifs t lt)
  (he:∀ (s:Shared) (H:Hp) (C:Addr) (cl:List (Str × Addr)) (fp:List Addr),Bp (X.blk s H scope (compEnvC scope cl C X.env) fp) W0 elt f le)
  (ok:BlkOk X.N X.env.scope scope own:=by exact blkOk_by (by decide +kernel)) (hS:∀ i∈S,i∈own.map (·.2):=by decide) (hs:∀ x,foldedSetIterable iter X.env x=pure x:=by intro _; rfl):
  Ts X W (.ListComp elt [⟨tg,iter,ifs,0⟩] scope pos) (EG u (own.map (·.2)) t f src lk) (lk ++ (le ++ own.map (·.2))):=by
 obtain ⟨wi,pi,di⟩:=hi
 refine ⟨_,pe_lc (g:=cG X.K u S) (tt:=cT X.K W0 t) (te:=cE X.K W0 f le) hc hN pi ok (fun s H C cl fp=>(hg s H C cl fp).Kl) (fun s H C cl fp=>(ht s H C cl fp).Kl) (fun s H C cl fp=>(he s H C cl fp).Kl) hs,?_⟩
 exact Ga di (fun μ H0 A0 ρ ρ' σ H d v Q s r e q=>⟨μ,H0,A0,ρ,ρ',d,s,r,e,q⟩) hS (lt:=lt) (fun μ H0 A0 ρ σ H Q s h=>⟨μ,H0,A0,ρ,s,h⟩) (fun μ H0 A0 ρ σ H Q s h=>⟨μ,H0,A0,ρ,s,h⟩)
theorem Km{elt tg iter:Expr}{ifs:List Expr}{scope:Scope}{pos py spos:Pos}{src:Env→Out (List Dt)}{y:Str}(i:Nat)(own:List (Str × Nat))(hc:X.calm=true)(hN:X.N.Nodup)(hi:Zg X W tg iter src lk)
  (hg:∀ (s:Shared) (H:Hp) (C:Addr) (cl:List (Str × Addr)) (fp:List Addr),TF (X.blk s H scope (compEnvC scope cl C X.env) fp) tg u S)
  (ht:∀ (s:Shared) (H:Hp) (C:Addr) (cl:List (Str × Addr)) (fp:List Addr),PF (X.blk s H scope (compEnvC scope cl C X.env) fp) W0 ifs t lt)
  (he:∀ (s:Shared) (H:Hp) (C:Addr) (cl:List (Str × Addr)) (fp:List Addr),Bp (X.blk s H scope (compEnvC scope cl C X.env) fp) W0 elt f le)
  (hy:X.N[i]? = some y:=by rfl) (hyl:X.env.scope.names.lookup y=some .local:=by rfl) (hsw:swapsWith (.ListComp elt [⟨tg,iter,ifs,0⟩] scope pos) (some (.Name y py)) spos.line X.env=pure true:=by exact sw_true rfl rfl rfl rfl)
  (ok:BlkOk X.N X.env.scope scope own:=by exact blkOk_by (by decide +kernel)) (hS:∀ i∈S,i∈own.map (·.2):=by decide) (hs:∀ x,foldedSetIterable iter X.env x=pure x:=by intro _; rfl):
  Kd X W (.Assign [.Name y py] (.ListComp elt [⟨tg,iter,ifs,0⟩] scope pos) spos) (EN i (EG u (own.map (·.2)) t f src lk) (lk ++ (le ++ own.map (·.2)))):=by
 obtain ⟨wi,pi,di⟩:=hi
 refine ⟨_,ps_setLc (g:=cG X.K u S) (tt:=cT X.K W0 t) (te:=cE X.K W0 f le) hc hN hy hyl hsw pi ok (fun s H C cl fp=>(hg s H C cl fp).Kl) (fun s H C cl fp=>(ht s H C cl fp).Kl) (fun s H C cl fp=>(he s H C cl fp).Kl) hs,?_⟩
 exact Pu (Ga di (fun μ H0 A0 ρ ρ' σ H d v Q s r e q=>⟨μ,H0,A0,ρ,ρ',d,s,r,e,q⟩) hS (lt:=lt) (fun μ H0 A0 ρ σ H Q s h=>⟨μ,H0,A0,ρ,s,h⟩) (fun μ H0 A0 ρ σ H Q s h=>⟨μ,H0,A0,ρ,s,h⟩))
end
end FD
namespace FD
open PySem L2 PyProof.Rows PySem.Spec
theorem Vz:bootBuiltins "int" = some (.type "int"):=by first | rfl | kernel_rfl
theorem Xj:bootBuiltins "bool" = some (.type "bool"):=by first | rfl | kernel_rfl
theorem UZ:bootBuiltins "str" = some (.type "str"):=by first | rfl | kernel_rfl
theorem Lq:bootBuiltins "tuple" = some (.type "tuple"):=by first | rfl | kernel_rfl
theorem Mx:bootBuiltins "ValueError" = some (.type "ValueError"):=by first | rfl | kernel_rfl
open PySem.W in
theorem KL{K:PySem.W.Frag}{t:Value}{C:Addr}{b:Bool}(hne:(t == Value.ref C)=false)(h1:isClsIn K C=true)(h2:typeIn K (.ref C)=some (.type "type"))(h3:subIn K t (.ref C)=some b):kitOne K t (.ref C)=some b:=by
 unfold kitOne kitCls
 rw [hne,if_neg Bool.false_ne_true]
 have h1':(clsIn K C).isSome=true:=h1
 show (if ((clsIn K C).isSome && typeIn K (.ref C) == some (.type "type"))=true then subIn K t (.ref C) else none)=some b
 rw [h1',h2]
 exact h3
open PySem.W in
theorem V7{K:PySem.W.Frag}{C:Addr}{T:String}{b:Bool}(h1:kitMeta T=true)(h3:subIn K (.ref C) (.type T)=some b):kitOne K (.ref C) (.type T)=some b:=by
 have hne:(Value.ref C == Value.type T)=false:=rfl
 unfold kitOne kitCls
 rw [hne,if_neg Bool.false_ne_true]
 show (if kitMeta T=true then _ else _)=_
 rw [if_pos h1]
 exact h3
open PySem.W in
theorem UA{K:PySem.W.Frag}{t:Value}{C:Addr}{b:Bool}(h0:subIn K (.ref C) (.type "BaseException")=some true)(h1:isClsIn K C=true)(h2:typeIn K (.ref C)=some (.type "type"))(h3:subIn K t (.ref C)=some b):exmOne K t (.ref C)=some b:=by
 unfold exmOne
 have e0:(subIn K (.ref C) (.type "BaseException") == some true)=true:=by rw [h0]; rfl
 rw [if_pos e0]
 unfold kitCls
 have h1':(clsIn K C).isSome=true:=h1
 show (if ((clsIn K C).isSome && typeIn K (.ref C) == some (.type "type"))=true then subIn K t (.ref C) else none)=some b
 rw [h1',h2]
 exact h3
theorem Kh{k:Nat}{A:Around}(r:Room k A):A.units + 64 < cLine:=by have:=r.un; omega
section
variable {P:Program} {w:World} {K:PySem.W.Frag} {mg:Str→Option Value} {base:Heap}
theorem Bh{x qual:Str}{params:Arguments}{body:List Stmt}{scope:Scope}{dvs:List V}{kws:List (Str × V)}{f:Addr}{fd:FuncData}{N ps:List Str}{k:Nat}{g:Env→SOut}(F:FunD K x qual params body scope dvs kws f fd)(S:FnScope N ps scope)
  (hb:∀ (cdv:Value) (A:Around) (outer:List PySem.Env) (s:Shared) (H:Hp) (E:XK),Room k (A.deeper (envOfC qual scope s.heap.objs.size f cdv)) →
   F0 (cxOf (L2N.CX P w) P w K mg base N qual scope f cdv A outer s H E) (fun c d _ H'=>E c d H') body g):
  FnOk P w K mg base (L2N.CX P w) (k + 1) f fd ps (Cw K ps.length (AR N.length g)):=by
 refine F.ok S (fun vs H Q E h=>?_) (fun cdv A outer s H vs Q E hr h=>?_)
 ·obtain ⟨ds,A,μ,r,hl,_⟩:=h
  rw [r.length,hl]
 ·obtain ⟨ds,A',μ,r,hl,ha,h⟩:=h
  obtain ⟨ts,hp,hd⟩:=hb cdv A outer s H E hr
  exact ⟨ts,hp,TR hd r ha h _ (fun _ _ q=>q) (fun _ _ q=>q)⟩
theorem AG{x qual:Str}{params:Arguments}{body:List Stmt}{scope:Scope}{f:Addr}{fd:FuncData}{ps:List Str}(F:FunD K x qual params body scope [] [] f fd)
  (h:∀ (kV doc pm:Value) (an:Option Addr) (cdv ct:Value) (us:List Value),us.length=ps.length→bindArgs (PySem.W.fnOf x qual params body scope .none kV doc pm an cdv ct) ⟨us,[]⟩=pure (ps.zip us)):Binds K fd ps []:=by
 obtain ⟨oc,od,dV,kV,doc,pm,an,cdv,ct,osl,rfl,lk,hcd,hD,_⟩:=F.ex
 rcases hD with ⟨_,rfl⟩ | ⟨z,_⟩
 ·exact .all (h kV doc pm an cdv ct)
 ·exact absurd rfl z
theorem ints_rep{K:KM}{H:Hp}{A:Ad}:∀ ns:List Int,Ag K H A (ns.map .int) (ns.map V.int)
 | []=>Ag.nil
 | _ :: ns=>Ag.cons rfl (ints_rep ns)
def M4(K:PySem.W.Frag):Sp:=fun vs H Q _=>∃ (a:Addr) (ns:List Int),vs=[.ref a]∧ns.length≤63∧(∀ z∈ns,Builtin.Int.intBits z≤1048576)∧Only H∧SqL K H a (ns.map V.int)∧∀ H',Q (.bl true) H'
theorem V9{k:Nat}{f:Addr}{fd:FuncData}{ps:List Str}{φ:List Dt→Out Dt}(F:FnOk P w K mg base (L2N.CX P w) k f fd ps (Cw K 1 φ))(h:∀ ns:List Int,ns.length≤63→(∀ z∈ns,Builtin.Int.intBits z≤1048576)→φ [.fls (ns.map .int)]=.ok (.bl true)):
  FnOk P w K mg base (L2N.CX P w) k f fd ps (M4 K):=by
 refine F.imp fun vs H Q E hq=>?_
 obtain ⟨a,ns,rfl,hl,hb,hO,hS,q⟩:=hq
 refine ⟨[.fls (ns.map .int)],TN,⟨[],true⟩,Ag.cons ?_ Ag.nil,rfl,fun _ z=>False.elim z,?_⟩
 ·unfold Rep
  refine ⟨a,ns.map V.int,rfl,?_,ints_rep ns⟩
  rcases hS with (hS | ⟨o,hS⟩) | hS
  ·rcases hO a with e | ⟨o,xs,e⟩
   ·rw [e] at hS; cases hS
   ·rw [e] at hS; cases hS
  ·exact .inl ⟨fun z=>z,o,hS⟩
  ·exact .inr hS
 ·rw [h ns hl hb]
  intro v H' _ r
  have e:v=.bl true:=r
  subst e
  exact q H'
theorem W5{H:Hp}{s:Shared}{e:Value}{s':Shared}:L2N.CX P w [] H s (fun _ _ _=>False) e s'→False:=by
 rintro ⟨a,B,H',cls,d,ea,fl,hok,ub,na,os,ag,he⟩
 exact he
theorem Vd{l:PySem.W.OpenLaw}{k:Nat}{q:Program}{loose:List Str}{XP:(Str→Option Value)→Heap→Prop}{YP:World→Heap→Prop}{d:DefRec}{K:Params→PySem.W.Frag}{x:Str}(hn:l.most=some 63)(hdf:d.params.defaults=[])(hr:Room k callerA)
  (hY:∀ (w:World) (h:Heap),YP w h→(K w.params).In h)
  (F:∀ (w:World) (mg:Str→Option Value) (fa:Addr) (h:Heap),(K w.params).In h→h.Ns mainGlobals mg→mg d.name=some (.ref fa) →
   ∃ fd:FuncData,(∀ (s:Shared) (u:Value),BindsTo s fd ⟨[u],[]⟩ [(x,u)])∧∀ base:Heap,(K w.params).In base→base.Ns mainGlobals mg→FnOk l.prog w (K w.params) mg base (L2N.CX l.prog w) k fa fd [x] (M4 (K w.params))):
  PySem.W.WalkO q loose XP YP l.row.toRowW d [] (fun f vs=>PySem.call f vs):=
 L2.walk_ofB (n:=63) (k:=k) (x:=x) (CX:=fun w=>L2N.CX l.prog w) (sp:=fun w=>M4 (K w.params)) hn (by decide) hdf hr hY F (fun _ _ a ns hl hb hO hS=>⟨a,ns,rfl,hl,hb,hO,hS,fun _=>rfl⟩) fun _ _ _ _ _ z=>W5 z
end
end FD
namespace FD
open PySem L2
section
variable {f g:Env→SOut} {ρ:Env} {i:Nat} {lk:List Nat} {e fa fb fc:Env→Out Dt} {fl:Env→Out (List Dt)} {c ft fu:Env→Out Bool} {u:Dt→Env→Option Env}
theorem Fx:An f g ρ=(f ρ).andThen g:=rfl
theorem Gf:Ar ρ=.ok .nx ρ:=rfl
theorem Mb:BV c f g ρ=F8 (c ρ) ρ fun b=>if b=true then f ρ else g ρ:=rfl
theorem IY:B2 i e lk ρ=F8 (e ρ) ρ fun d=>.ok .nx ((AI d lk ρ).set i (some (.sh d))):=rfl
theorem Ge:EN i fl lk ρ=F8 (fl ρ) ρ fun ds=>.ok .nx ((Mi ds lk ρ).set i (some (.ol ds))):=rfl
theorem Gm:Lu e ρ=F8 (e ρ) ρ fun _=>.ok .nx ρ:=rfl
theorem Ir:Ax e lk ρ=F8 (e ρ) ρ fun d=>.ok (.rt d) (AI d lk ρ):=rfl
theorem CV:Bj u fl lk g ρ=F8 (fl ρ) ρ fun ds=>BK u g ds (frz lk ρ):=rfl
theorem G3{C:Addr}{fns:List Str}{gg:List Dt→Bool}:Fq C fns gg fl ρ=F8 (fl ρ) ρ fun ds=>if ds.length=fns.length∧Dt.CA ds=true∧gg ds=true then .exc ⟨C,fns.zip ds⟩ ρ else .bad:=rfl
theorem EA:BR i e lk ρ=match ρ[i]? with
 | some (some (.ol _))=>F8 (e ρ) ρ fun d=>(match (AI d lk ρ)[i]? with
  | some (some (.ol ds))=>if ds.length < 16777216 then .ok .nx ((AI d lk ρ).set i (some (.ol (ds ++ [d])))) else .bad
  | _=>.bad)
 | _=>.bad:=rfl
theorem OY{d:Dt}:eC d ρ=.ok d:=rfl
theorem LR{d:Dt}:Ab 0 (some (.sh d) :: ρ)=.ok d:=rfl
theorem HC{d:List Dt}:Ab 0 (some (.ol d) :: ρ)=.ok (.lst d):=rfl
theorem IQ{k:List Key}{d:List Dt}:Ab 0 (some (.od k d) :: ρ)=.ok (.dic k d):=rfl
theorem Ln{l:Option Lo}:Ab (i + 1) (l :: ρ)=Ab i ρ:=rfl
theorem OH{gg:Dt→Dt→Option Dt}:e2 fa fb gg ρ=(fa ρ).bind fun a=>(fb ρ).bind fun b=>DY (gg a b):=rfl
theorem Px{gg:Dt→Option Bool}:t1 fa gg ρ=(fa ρ).bind fun a=>DY (gg a):=rfl
theorem O2{gg:Dt→Dt→Option Bool}:t2 fa fb gg ρ=(fa ρ).bind fun a=>(fb ρ).bind fun b=>DY (gg a b):=rfl
theorem OL:eT ft ρ=(ft ρ).bind fun b=>.ok (.bl b):=rfl
theorem Il:CH ft fu ρ=(ft ρ).bind fun b=>if b=true then fu ρ else .ok false:=rfl
theorem LA:CT ft fu ρ=(ft ρ).bind fun b=>if b=true then .ok true else fu ρ:=rfl
theorem Hy:Bw ft ρ=(ft ρ).bind fun b=>.ok (!b):=rfl
theorem IH:Ah ρ=.ok []:=rfl
theorem GC:Aa fa fl ρ=(fa ρ).bind fun d=>(fl ρ).bind fun ds=>.ok (d :: ds):=rfl
theorem HK:Jo fl ρ=(fl ρ).bind fun ds=>if ds.length≤16777216 then .ok (.tup ds) else .bad:=rfl
theorem I0:FZ fl ρ=(fl ρ).bind fun ds=>if ds.length≤16777216 then .ok ds else .bad:=rfl
theorem O9:eL fl ρ=(fl ρ).bind fun ds=>.ok (.lst ds):=rfl
theorem OS{gg:List Dt→Option Dt}:eB gg fl ρ=(fl ρ).bind fun ds=>DY (gg ds):=rfl
theorem Fe{φ:List Dt→Out Dt}:Ao φ fl ρ=(fl ρ).bind φ:=rfl
theorem HX:FQ fa fb ρ=(fa ρ).bind fun a=>(DY (XQ a)).bind fun b=>if b=true then fb ρ else .ok (.bl false):=rfl
theorem Ih:Oi fa ρ=(fa ρ).bind fun a=>(DY (XQ a)).bind fun b=>.ok (.bl (!b)):=rfl
theorem HD:AO fa ρ=(fa ρ).bind fun d=>DY d.seq:=rfl
theorem E7:BP fl ρ=(fl ρ).bind fun ds=>DY (YW ds):=rfl
theorem GG:J6 ρ=.ok none:=rfl
theorem HQ:Pt e ρ=(e ρ).bind fun d=>match d with
 | .int i=>.ok (some i)
 | _=>.bad:=rfl
theorem DN{z:Int}:AI (.int z) lk ρ=ρ:=rfl
theorem Iw{z:Bool}:AI (.bl z) lk ρ=ρ:=rfl
theorem GL{z:Str}:AI (.str z) lk ρ=ρ:=rfl
theorem GA{ds:List Dt}:AI (.lst ds) lk ρ=frz lk ρ:=rfl
theorem Fg{d:Dt}:AI d [] ρ=ρ:=by unfold AI; split <;> rfl
theorem Na{d:Dt}(h:d.pure=true):AI d lk ρ=ρ:=by unfold AI; rw [if_pos (.inl h)]
def Uo:SOut→Out Dt
 | .ok .nx _=>.ok .non
 | .ok (.rt d) _=>.ok d
 | .exc x _=>.exc x
 | _=>.bad
@[simp] theorem IE:Uo (.ok .nx ρ)=.ok .non:=rfl
@[simp] theorem IS{d:Dt}:Uo (.ok (.rt d) ρ)=.ok d:=rfl
@[simp] theorem Gi{x:Exn}:Uo (.exc x ρ)=.exc x:=rfl
theorem G6{n:Nat}{ds:List Dt}:AR n g ds=Uo (g (ds.map (fun d=>some (Lo.sh d)) ++ List.replicate (n - ds.length) none)):=by
 unfold AR Uo
 rfl
end
theorem K2{d:Dt}{ρ:Env}:F9 (some (.sh d) :: ρ) 0=some (.sh d) :: ρ:=rfl
theorem HL{d:List Dt}{ρ:Env}:F9 (some (.ol d) :: ρ) 0=some (.sh (.lst d)) :: ρ:=rfl
theorem Ls{l:Lo}{ρ:Env}:Hr (some l :: ρ) 0=l.ld:=rfl
theorem Lf{l:Option Lo}{ρ:Env}{i:Nat}:Hr (l :: ρ) (i + 1)=Hr ρ i:=by
 unfold Hr
 rw [List.getElem?_cons_succ]
def EZ(ρ:Env)(i:Nat):Bool:=match ρ[i]? with
 | some (some (.sh _))=>true
 | some (some _)=>false
 | _=>true
theorem LP{d:Dt}{ρ:Env}:EZ (some (.sh d) :: ρ) 0=true:=rfl
theorem K4{ρ:Env}:EZ (none :: ρ) 0=true:=rfl
theorem Lw{l:Option Lo}{ρ:Env}{i:Nat}:EZ (l :: ρ) (i + 1)=EZ ρ i:=by
 unfold EZ
 rw [List.getElem?_cons_succ]
theorem WY{ρ:Env}{i:Nat}(h:EZ ρ i=true):F9 ρ i=ρ:=by
 unfold EZ at h
 unfold F9
 split at h
 ·rename_i d e
  rw [e]
  exact Bc e
 ·cases h
 ·rename_i h1 h2
  split
  ·rename_i cs e
   exact absurd e (h2 _)
  ·rename_i l e e2
   exact absurd e2 (h2 _)
  ·rfl
theorem QW{ρ:Env}:∀ {lk:List Nat},lk.all (EZ ρ)=true→frz lk ρ=ρ
 | [],_=>rfl
 | i :: lk,h=>by
  rw [List.all_cons,Bool.and_eq_true] at h
  rw [CO,WY h.1]
  exact QW h.2
theorem DG{ρ:Env}{lk:List Nat}{d:Dt}(h:lk.all (EZ ρ)=true):AI d lk ρ=ρ:=by
 unfold AI
 split
 ·rfl
 ·exact QW h
theorem CD{ρ:Env}{lk:List Nat}{d:List Dt}(h:lk.all (EZ ρ)=true):Mi d lk ρ=ρ:=by
 unfold Mi
 split
 ·rfl
 ·exact QW h
theorem Lo.PU{d:Dt}:(Lo.sh d).ld=true:=rfl
theorem K5{l:Option Lo}{ρ:Env}{i:Nat}:F9 (l :: ρ) (i + 1)=l :: F9 ρ i:=by
 unfold F9
 rw [List.getElem?_cons_succ]
 cases ρ[i]? with
 | none=>rfl
 | some x=>
  cases x with
  | none=>rfl
  | some l=>cases l <;> rfl
theorem E4{i:Nat}{d:Dt}{ρ:Env}:Ak i d ρ=some (ρ.set i (some (.sh d))):=rfl
theorem IV{us:List Dt→Env→Option Env}{ds:List Dt}{ρ:Env}:Hv us (.tup ds) ρ=us ds ρ:=rfl
theorem GV{u:Dt→Env→Option Env}{us:List Dt→Env→Option Env}{d:Dt}{ds:List Dt}{ρ:Env}:BF u us (d :: ds) ρ=(u d ρ).bind fun ρ'=>us ds ρ':=rfl
theorem HH{ρ:Env}:G8 [] ρ=some ρ:=rfl
def Rj(u:Dt→Env→Option Env)(b:Env→SOut)(ds:List Dt):SOut→SOut
 | .ok .nx ρ=>BK u b ds ρ
 | .ok .ct ρ=>BK u b ds ρ
 | .ok .bk ρ=>.ok .nx ρ
 | o=>o
@[simp] theorem Jf{u:Dt→Env→Option Env}{b:Env→SOut}{ds:List Dt}{ρ:Env}:Rj u b ds (.ok .nx ρ)=BK u b ds ρ:=rfl
@[simp] theorem Hx{u:Dt→Env→Option Env}{b:Env→SOut}{ds:List Dt}{ρ:Env}{d:Dt}:Rj u b ds (.ok (.rt d) ρ)=.ok (.rt d) ρ:=rfl
theorem Dx{u:Dt→Env→Option Env}{b:Env→SOut}{d:Dt}{ds:List Dt}{ρ ρ1:Env}(h:u d ρ=some ρ1):BK u b (d :: ds) ρ=Rj u b ds (b ρ1):=by
 rw [Nb,h]
 show (match b ρ1 with
   | .ok .nx ρ'=>BK u b ds ρ'
   | .ok .ct ρ'=>BK u b ds ρ'
   | .ok .bk ρ'=>.ok .nx ρ'
   | o=>o)=_
 cases b ρ1 with
 | ok f ρ'=>cases f <;> rfl
 | exc x ρ'=>rfl
 | bad=>rfl
theorem D3{i:Nat}{b:Env→SOut}{d:Dt}{ds:List Dt}{ρ:Env}:BK (Ak i) b (d :: ds) ρ=Rj (Ak i) b ds (b (ρ.set i (some (.sh d)))):=Dx rfl
theorem GK{K:PySem.W.Frag}{D a C:Addr}{od:Option Addr}{ns:List Str}{ds:List Dt}{b:Bool}(h:PySem.W.kitOne K (.ref D) (.ref C)=some b):DB K D a od [.exn a od D ns ds,.cls C]=some (.bl b):=by
 unfold DB
 simp [h]
theorem Xh{K:PySem.W.Frag}{D a:Addr}{T:String}{od:Option Addr}{ns:List Str}{ds:List Dt}{b:Bool}(h:PySem.W.kitOne K (.ref D) (.type T)=some b):DB K D a od [.exn a od D ns ds,.ty T]=some (.bl b):=by
 unfold DB
 simp [h]
theorem II{α β:Type}(f:α→β)(xs:List α)(i:Int):atI (xs.map f) i=(atI xs i).map f:=by
 unfold atI
 rw [List.length_map]
 cases ixN xs.length i with
 | none=>rfl
 | some j=>exact List.getElem?_map
theorem Jk{α:Type}{xs:List α}{i:Int}(h0:0≤i)(h1:i < xs.length):∃ x,atI xs i=some x∧xs[i.toNat]? = some x:=by
 have hj:i.toNat < xs.length:=by omega
 refine ⟨xs[i.toNat],?_,List.getElem?_eq_getElem hj⟩
 unfold atI ixN
 rw [if_pos h0,if_pos h1]
 exact List.getElem?_eq_getElem hj
theorem atI_nat{α:Type}(xs:List α)(n:Nat):atI xs (n:Int)=xs[n]?:=by
 unfold atI ixN
 rw [if_pos (by omega)]
 by_cases h:n < xs.length
 ·rw [if_pos (by omega)]
  rfl
 ·rw [if_neg (by omega),List.getElem?_eq_none (by omega)]
  rfl
theorem PR{α:Type}(a:α)(xs:List α):atI (a :: xs) 0=some a:=atI_nat (a :: xs) 0
theorem Pk{α:Type}(a b:α)(xs:List α):atI (a :: b :: xs) 1=some b:=atI_nat (a :: b :: xs) 1
theorem Pl{α:Type}(a b c:α)(xs:List α):atI (a :: b :: c :: xs) 2=some c:=atI_nat (a :: b :: c :: xs) 2
theorem UH{α:Type}(f:α→Dt)(xs:List α)(lo hi:Option Int):∃ ys:List α,cutD (xs.map f) lo hi=ys.map f:=by
 unfold cutD
 refine ⟨(xs.drop (HT.sIx xs.length 0 lo)).take (HT.sIx xs.length xs.length hi - HT.sIx xs.length 0 lo),?_⟩
 rw [List.length_map,List.map_take,List.map_drop]
def Bd(n:Nat)(i:Int):Prop:=i.natAbs < 2 ^ n
theorem Bd.mono{m n:Nat}{i:Int}(h:Bd m i)(hm:m≤n):Bd n i:=Nat.lt_of_lt_of_le h (Nat.pow_le_pow_right (by decide) hm)
theorem Bd.add{m n:Nat}{i j:Int}(h:Bd m i)(k:Bd n j):Bd (max m n + 1) (i + j):=by
 have h1:i.natAbs < 2 ^ max m n:=h.mono (Nat.le_max_left _ _)
 have k1:j.natAbs < 2 ^ max m n:=k.mono (Nat.le_max_right _ _)
 unfold Bd
 rw [Nat.pow_succ]
 have:=Int.natAbs_add_le i j
 omega
theorem Bd.neg{n:Nat}{i:Int}(h:Bd n i):Bd n (-i):=by
 unfold Bd
 rw [Int.natAbs_neg]
 exact h
theorem Bd.sub{m n:Nat}{i j:Int}(h:Bd m i)(k:Bd n j):Bd (max m n + 1) (i - j):=by
 rw [Int.sub_eq_add_neg]
 exact h.add k.neg
theorem Bd.le{n:Nat}{i j:Int}(h:Bd n i)(k:j.natAbs≤i.natAbs):Bd n j:=Nat.lt_of_le_of_lt k h
end FD
namespace FD
open PySem L2 PyProof.Rows PySem.Spec
section
variable {K:PySem.W.Frag} {W:WX} {H0 H H1:Hp} {A A0:Ad} {ρ:Env} {σ:L2.St} {lk la lb:List Nat}
end
def Dt.X7:Dt→Option (List Dt)
 | .lst ds=>some ds
 | .fls ds=>some ds
 | .tup ds=>some ds
 | _=>none
section
variable {X:Cx} {W:WX} {o e:Expr} {f fb:Env→Out Dt} {la lb:List Nat} {apos pos:Pos}
end
end FD
namespace FD
open PySem L2 PyProof.Rows PySem.Spec
theorem us64{k:Nat}{A:Around}{h:Option Value}(r:Room k A):(A.mark h).units + 64 < cLine:=by have:=Kh r; exact this
section
variable {X:Cx} {W:WX} {a b e iter tg:Expr} {f fa fb:Env→Out Dt} {fs:Env→Out (List Dt)} {la lb lk:List Nat} {pos p p2:Pos} {lo hi:Option Expr} {fl fh:Env→Out (Option Int)} {es:List Expr}
def G9:List Dt→Option Dt
 | [.int i]=>if i.natAbs.log2 < 1920 then some (.str (toString i:String)) else none
 | [.str a]=>some (.str a)
 | _=>none
@[simp] theorem Vw(i:Int):G9 [.int i]=if i.natAbs.log2 < 1920 then some (.str (toString i:String)) else none:=rfl
theorem CallR.or{c:Value}{r r':List V→Hp→VK→Prop}(h:CallR X c r)(h':CallR X c r'):CallR X c (fun xs H Q=>r xs H Q∨r' xs H Q):=fun pins s σ H xs us Q I rr q=>q.elim (h pins s σ H xs us Q I rr) (h' pins s σ H xs us Q I rr)
theorem SM:∀ ds d,G9 ds=some d→d.scal=true:=fun ds d e=>by
 unfold G9 at e
 split at e
 ·obtain ⟨_,rfl⟩:=AX e; rfl
 ·cases e; rfl
 ·cases e
theorem RJ(hg:Gl X "str")(hm:X.mg "str" = none)(ha:JR X W [e] fs lk)(he:starEach [e] X.env=(false,eval e X.env) :: starEach [] X.env:=by rfl):Bp X W (.Call (.Name "str" p) [e] [] pos) (eB G9 fs) []:=by
 obtain ⟨ta,pa,da⟩:=ha
 refine ⟨_,pe_callTy (CallR.or call_str_int SkE.call_str_str) hg hm UZ pa (by decide) (by decide) he rfl,Ew (fun μ H A ds d vs Q _ r e q=>?_) SM da⟩
 unfold G9 at e
 split at e
 ·obtain ⟨v,rfl,rr⟩:=B5 r
  obtain ⟨h,rfl⟩:=AX e
  exact .inl ⟨_,congrArg (fun v=>[v]) rr,h,RE.now q rfl⟩
 ·obtain ⟨v,rfl,rr⟩:=B5 r
  cases e
  exact .inr ⟨_,congrArg (fun v=>[v]) rr,RE.now q rfl⟩
 ·cases e
def Fc:List Dt→Option Dt
 | [.int i]=>some (.int i)
 | [.bl b]=>some (.int (if b then 1 else 0))
 | [.str a]=>if a.length≤640 then (PySem.intText? a).map fun n=>.int n else none
 | _=>none
@[simp] theorem Ff(i:Int):Fc [.int i]=some (.int i):=rfl
theorem LK:∀ ds d,Fc ds=some d→d.scal=true:=fun ds d e=>by
 unfold Fc at e
 split at e
 ·cases e; rfl
 ·cases e; rfl
 ·obtain ⟨_,e⟩:=Ji e
  obtain ⟨n,_,rfl⟩:=Option.map_eq_some_iff.mp e
  rfl
 ·cases e
where
 Ji {α:Type} {c:Prop} [Decidable c] {o:Option α} {x:α} (e:(if c then o else none)=some x):c∧o=some x:=by
  split at e
  ·exact ⟨by assumption,e⟩
  ·cases e
theorem EX(hg:Gl X "int")(hm:X.mg "int" = none)(ha:JR X W [e] fs lk)(he:starEach [e] X.env=(false,eval e X.env) :: starEach [] X.env:=by rfl):Bp X W (.Call (.Name "int" p) [e] [] pos) (eB Fc fs) []:=by
 obtain ⟨ta,pa,da⟩:=ha
 refine ⟨_,pe_callTy (CallR.or call_int1 call_int_str) hg hm Vz pa (by decide) (by decide) he rfl,Ew (fun μ H A ds d vs Q _ r e q=>?_) LK da⟩
 unfold Fc at e
 split at e
 ·obtain ⟨v,rfl,rr⟩:=B5 r
  cases e
  exact .inl (.inl ⟨_,congrArg (fun v=>[v]) rr,RE.now q rfl⟩)
 ·obtain ⟨v,rfl,rr⟩:=B5 r
  cases e
  exact .inl (.inr ⟨_,congrArg (fun v=>[v]) rr,RE.now q rfl⟩)
 ·obtain ⟨v,rfl,rr⟩:=B5 r
  obtain ⟨h,e⟩:=LK.Ji e
  obtain ⟨n,hn,rfl⟩:=Option.map_eq_some_iff.mp e
  exact .inr ⟨_,n,congrArg (fun v=>[v]) rr,hn,h,RE.now q rfl⟩
 ·cases e
def RW(a:Dt)(lo hi:Option Int):Option Dt:=match a with
 | .lst ds=>some (.lst (cutD ds lo hi))
 | .fls ds=>some (.lst (cutD ds lo hi))
 | .str z=>if z.length≤16777216 then some (.str (Txt.slice z lo hi)) else none
 | _=>none
def Qt(f:Env→Out Dt)(fl fh:Env→Out (Option Int)):Env→Out Dt:=fun ρ=>(f ρ).bind fun a=>(fl ρ).bind fun lo=>(fh ρ).bind fun hi=>DY (RW a lo hi)
theorem QS(he:Bp X W e f la)(hl:POD X W lo fl)(hh:POD X W hi fh):Bp X W (.Subscript e (.Slice lo hi none p2) pos) (Qt f fl fh) la:=by
 obtain ⟨t,p,d⟩:=he
 obtain ⟨tl,pl,dl⟩:=hl
 obtain ⟨th,ph,dh⟩:=hh
 refine ⟨_,pe_slice (SlR.or sl_list C8.sl_txt) p pl ph,?_⟩
 intro μ H0 A0 ρ σ H Q s h
 refine d _ _ _ _ _ _ _ s (h.seq fun a _ h1 v H1 s1 r1=>?_)
 refine dl _ _ _ _ _ _ _ (s.grow s1) ((h1.grow s1).seq fun lo _ h2 H2 s2=>?_)
 refine dh _ _ _ _ _ _ _ (s.grow (s1.trans s2)) ((h2.grow s2).seq fun hi _ h3 H3 s3=>?_)
 obtain ⟨d',e,q⟩:=Bt h3
 have sA:=(s1.trans s2).trans s3
 have r3:=r1.same (s2.trans s3)
 have new:∀ {es:List Dt} {us:List V} {c:Addr},H3 c=none→Ag ⟨X.K,μ⟩ H3 (Av ⟨X.K,μ⟩ A0 ρ σ la) es us→Rep ⟨X.K,μ⟩ (upd H3 c (.lst us)) (Av ⟨X.K,μ⟩ A0 ρ σ la) (.lst es) (.ref c):=fun {es us c} hc r=>by
  unfold Rep
  exact ⟨c,us,rfl,(s.grow sA).MJ hc,upd_same,r.same (Same.new hc)⟩
 cases a <;> try (cases e; done)
 ·obtain ⟨hz,rfl⟩:=AX e
  exact .inr ⟨_,r3,by rw [sizeLine_eq]; exact hz,q _ _ sA rfl⟩
 ·cases e
  unfold Rep at r3
  obtain ⟨c0,vs,rfl,n,h1,r⟩:=r3
  exact .inl ⟨c0,vs,rfl,SqL.of h1,fun c hc=>q _ _ (sA.trans (Same.new hc)) (new hc r.cut)⟩
 ·cases e
  unfold Rep at r3
  obtain ⟨c0,vs,rfl,h1,r⟩:=r3
  exact .inl ⟨c0,vs,rfl,SqL.Xw h1,fun c hc=>q _ _ (sA.trans (Same.new hc)) (new hc r.cut)⟩
def UT:Dt→Option (List Dt)
 | .lst ds=>some ds.reverse
 | .fls ds=>some ds.reverse
 | _=>none
def Qn(f:Env→Out Dt):Env→Out (List Dt):=fun ρ=>(f ρ).bind fun a=>DY (UT a)
theorem Ag.rev{K:KM}{H:Hp}{A:Ad}:∀ {ds:List Dt} {vs:List V},Ag K H A ds vs→Ag K H A ds.reverse vs.reverse
 | [],vs,r=>by unfold Ag at r; subst r; exact Ag.nil
 | d :: ds,vs,r=>by
  unfold Ag at r
  obtain ⟨v,q,rfl,r1,r2⟩:=r
  rw [List.reverse_cons,List.reverse_cons]
  exact Ag.append (Ag.rev r2) (Ag.cons r1 Ag.nil)
theorem UD{k:Nat}{q1 q2 q3:Pos}(he:Bp X W e f la):Ts X W (.Subscript e (.Slice none none (some (.UnaryOp .USub (.Constant (.int 1) k q1) q2)) q3) pos) (Qn f) la:=by
 obtain ⟨t,p,d⟩:=he
 refine ⟨_,pe_revL p,?_⟩
 intro μ H0 A0 ρ σ H Q s h
 refine d _ _ _ _ _ _ _ s (h.seq fun a _ h1 v H1 s1 r1=>?_)
 obtain ⟨ds,e,q⟩:=Bt h1
 cases a <;> try (cases e; done)
 ·cases e
  unfold Rep at r1
  obtain ⟨c0,vs,rfl,n,h1,r⟩:=r1
  exact ⟨c0,vs,rfl,SqL.of h1,fun c hc=>q c _ _ (s1.trans (Same.new hc)) (s1.free hc) upd_same ((Ag.fresh hc _ _ (Ag.rev r)).same (Same.new hc))⟩
 ·cases e
  unfold Rep at r1
  obtain ⟨c0,vs,rfl,h1,r⟩:=r1
  exact ⟨c0,vs,rfl,SqL.Xw h1,fun c hc=>q c _ _ (s1.trans (Same.new hc)) (s1.free hc) upd_same ((Ag.fresh hc _ _ (Ag.rev r)).same (Same.new hc))⟩
end
end FD
namespace FD
open PySem L2 PyProof.Rows PySem.Spec
inductive XO (α:Type) where
 | ok (a:α) (ρ:Env) | exc (x:Exn) (ρ:Env) | bad
def XO.bind{α β:Type}(o:XO α)(f:α→Env→XO β):XO β:=match o with
 | .ok a ρ=>f a ρ
 | .exc x ρ=>.exc x ρ
 | .bad=>.bad
@[simp] theorem XO.AB{α β:Type}(a:α)(ρ:Env)(f:α→Env→XO β):(XO.ok a ρ).bind f=f a ρ:=rfl
theorem XO.bind_assoc{α β γ:Type}(o:XO α)(f:α→Env→XO β)(g:β→Env→XO γ):(o.bind f).bind g=o.bind fun a ρ=>(f a ρ).bind g:=by
 cases o <;> rfl
def Out.x{α:Type}(o:Out α)(ρ:Env):XO α:=match o with
 | .ok a=>.ok a ρ
 | .exc x=>.exc x ρ
 | .bad=>.bad
@[simp] theorem Out.Pc{α:Type}(a:α)(ρ:Env):(Out.ok a).x ρ=.ok a ρ:=rfl
def Out.xb{α β:Type}(o:Out α)(ρ:Env)(k:α→XO β):XO β:=match o with
 | .ok a=>k a
 | .exc x=>.exc x ρ
 | .bad=>.bad
def xP{α:Type}(f:Env→Out α):Env→XO α:=fun ρ=>(f ρ).x ρ
structure Ch (K:PySem.W.Frag) (S:List Nat) (σ:L2.St) (μ:Mu) (H:Hp) (ρ:Env) (μ':Mu) (H':Hp) (ρ':Env):Prop where
 xt:Xt μ μ'
 keep:∀ a o,H a=some o→(∀ i,i∈S→¬ AH ⟨K,μ⟩ ρ σ i a)→H' a=some o
 env:∀ j,j∉S→ρ'[j]? = ρ[j]?
 own:∀ j a,j∈S→AH ⟨K,μ'⟩ ρ' σ j a→(∃ i,i∈S∧AH ⟨K,μ⟩ ρ σ i a)∨H a=none
 mh:μ'=μ∨∀ (j:Nat) (cs:List Cell),ρ[j]? = some (some (.mh cs))→j∈S
section
variable {K:PySem.W.Frag} {S:List Nat} {σ:L2.St} {μ μ' μ'':Mu} {H H' H'' H0:Hp} {ρ ρ' ρ'':Env} {A0:Ad} {lk la lb:List Nat} {W:WX} {d:Dt} {v:V} {α β:Type}
theorem Ch.refl(μ:Mu)(H:Hp)(ρ:Env):Ch K S σ μ H ρ μ H ρ:=⟨Xt.refl _,fun _ _ e _=>e,fun _ _=>rfl,fun j a hj h=>.inl ⟨j,hj,h⟩,.inl rfl⟩
theorem Ch.grow(c:Ch K S σ μ H ρ μ' H' ρ')(hs:Same H' H''):Ch K S σ μ H ρ μ' H'' ρ':=⟨c.xt,fun a o e n=>hs a o (c.keep a o e n),c.env,c.own,c.mh⟩
theorem Ch.trans(c:Ch K S σ μ H ρ μ' H' ρ')(c':Ch K S σ μ' H' ρ' μ'' H'' ρ''):Ch K S σ μ H ρ μ'' H'' ρ'':=by
 refine ⟨c.xt.trans c'.xt,fun a o e n=>?_,fun j hj=>(c'.env j hj).trans (c.env j hj),fun j a hj h=>?_,?_⟩
 ·refine c'.keep a o (c.keep a o e n) fun i hi q=>?_
  rcases c.own i a hi q with ⟨j,hj,q⟩ | q
  ·exact n j hj q
  ·rw [e] at q; cases q
 ·rcases c'.own j a hj h with ⟨i,hi,q⟩ | q
  ·exact c.own i a hi q
  ·cases e:H a with
   | none=>exact .inr rfl
   | some o=>
    refine .inl (Classical.byContradiction fun n=>?_)
    have:=c.keep a o e fun i hi q=>n ⟨i,hi,q⟩
    rw [q] at this
    cases this
 ·rcases c.mh with e | m
  ·rcases c'.mh with e' | m'
   ·exact .inl (e'.trans e)
   ·refine .inr fun j cs q=>Classical.byContradiction fun n=>?_
    exact n (m' j cs (by rw [c.env j n]; exact q))
  ·exact .inr m
theorem Ch.back(c:Ch K S σ μ H ρ μ' H' ρ'){j:Nat}{a:Addr}(hj:j∉S)(h:AH ⟨K,μ'⟩ ρ' σ j a):AH ⟨K,μ⟩ ρ σ j a:=by
 obtain ⟨l,e,ho⟩:=h
 rw [c.env j hj] at e
 refine ⟨l,e,ho.ext fun q=>?_⟩
 rcases c.mh with z | m
 ·exact z
 ·cases l with
  | mh cs=>exact absurd (m j cs e) hj
  | _=>cases q
theorem Ch.av(c:Ch K S σ μ H ρ μ' H' ρ')(hd:∀ i,i∈S→i∉lk){a:Addr}(z:Av ⟨K,μ'⟩ A0 ρ' σ lk a):Av ⟨K,μ⟩ A0 ρ σ lk a∨H a=none:=by
 rcases z with z | ⟨j,n,h⟩
 ·exact .inl (.inl z)
 ·by_cases hj:j∈S
  ·rcases c.own j a hj h with ⟨i,hi,q⟩ | q
   ·exact .inl (.inr ⟨i,hd i hi,q⟩)
   ·exact .inr q
  ·exact .inl (.inr ⟨j,n,c.back hj h⟩)
theorem Ch.kp(c:Ch K S σ μ H ρ μ' H' ρ')(hd:∀ i,i∈S→i∉lk):∀ a o,¬ Av ⟨K,μ⟩ A0 ρ σ lk a→H a=some o→H' a=some o:=fun a o n e=>c.keep a o e fun i hi q=>n (.inr ⟨i,hd i hi,q⟩)
theorem Ch.rep(c:Ch K S σ μ H ρ μ' H' ρ')(hd:∀ i,i∈S→i∉lk)(r:Rep ⟨K,μ⟩ H (Av ⟨K,μ⟩ A0 ρ σ lk) d v):Rep ⟨K,μ'⟩ H' (Av ⟨K,μ'⟩ A0 ρ' σ lk) d v:=
 r.KU c.xt (c.kp hd) fun a z=>c.av hd z
def BO(K:PySem.W.Frag)(W:WX)(μ:Mu)(H0:Hp)(A0:Ad)(σ:L2.St){α:Type}(o:XO α)(R:α→Env→Prop):Prop:=match o with
 | .ok a ρ=>R a ρ
 | .exc x ρ=>∀ μ' H' c od,Xt μ μ'→StOk ⟨K,μ'⟩ H0 A0 H' ρ σ→Kb K H' x c od→W c od σ H'
 | .bad=>False
theorem BO.ext{o:XO α}{R:α→Env→Prop}(x:Xt μ μ')(h:BO K W μ H0 A0 σ o R):BO K W μ' H0 A0 σ o R:=by
 cases o with
 | ok a ρ=>exact h
 | exc e ρ=>exact fun m H' c od y s r=>h m H' c od (x.trans y) s r
 | bad=>exact h
theorem BO.seq{o:XO α}{g:α→Env→XO β}{R:β→Env→Prop}{R':α→Env→Prop}(h:BO K W μ H0 A0 σ (o.bind g) R)(hk:∀ a ρ,o=.ok a ρ→BO K W μ H0 A0 σ (g a ρ) R→R' a ρ):BO K W μ H0 A0 σ o R':=by
 cases o with
 | ok a ρ=>exact hk a ρ rfl h
 | exc e ρ=>exact h
 | bad=>exact h
theorem BO.imp{o:XO α}{R R':α→Env→Prop}(h:BO K W μ H0 A0 σ o R)(hk:∀ a ρ,o=.ok a ρ→R a ρ→R' a ρ):BO K W μ H0 A0 σ o R':=by
 cases o with
 | ok a ρ=>exact hk a ρ rfl h
 | exc e ρ=>exact h
 | bad=>exact h
theorem BO.p{o:Out α}{R:α→Env→Prop}{R':α→Prop}(s:StOk ⟨K,μ⟩ H0 A0 H ρ σ)(h:BO K W μ H0 A0 σ (o.x ρ) R)(hk:∀ a,o=.ok a→R a ρ→R' a):Ce K W H σ o R':=by
 cases o with
 | ok a=>exact hk a rfl h
 | exc e=>exact fun c od H' hs x=>h μ H' c od (Xt.refl _) (s.grow hs) x
 | bad=>exact h
theorem BO.pb{o:Out α}{k:α→XO β}{R:β→Env→Prop}{R':α→Prop}(s:StOk ⟨K,μ⟩ H0 A0 H ρ σ)(h:BO K W μ H0 A0 σ (o.xb ρ k) R)(hk:∀ a,o=.ok a→BO K W μ H0 A0 σ (k a) R→R' a):Ce K W H σ o R':=by
 cases o with
 | ok a=>exact hk a rfl h
 | exc e=>exact fun c od H' hs x=>h μ H' c od (Xt.refl _) (s.grow hs) x
 | bad=>exact h
theorem BO.o{o:Option α}{R:α→Env→Prop}(h:BO K W μ H0 A0 σ ((DY o).x ρ) R):∃ a,o=some a∧R a ρ:=by
 cases o with
 | some a=>exact ⟨a,rfl,h⟩
 | none=>exact False.elim h
abbrev RM(K:PySem.W.Frag)(S:List Nat)(lk:List Nat)(μ:Mu)(H0:Hp)(A0:Ad)(ρ:Env)(σ:L2.St)(H:Hp)(Q:VK):Dt→Env→Prop:=fun d ρ'=>∀ μ' v H',Ch K S σ μ H ρ μ' H' ρ'→StOk ⟨K,μ'⟩ H0 A0 H' ρ' σ→Rep ⟨K,μ'⟩ H' (Av ⟨K,μ'⟩ A0 ρ' σ lk) d v→Q v H'
abbrev RMs(K:PySem.W.Frag)(S:List Nat)(lk:List Nat)(μ:Mu)(H0:Hp)(A0:Ad)(ρ:Env)(σ:L2.St)(H:Hp)(Q:List V→Hp→Prop):List Dt→Env→Prop:=fun ds ρ'=>∀ μ' vs H',Ch K S σ μ H ρ μ' H' ρ'→StOk ⟨K,μ'⟩ H0 A0 H' ρ' σ→Ag ⟨K,μ'⟩ H' (Av ⟨K,μ'⟩ A0 ρ' σ lk) ds vs→Q vs H'
abbrev RMl(K:PySem.W.Frag)(S:List Nat)(lk:List Nat)(μ:Mu)(H0:Hp)(A0:Ad)(ρ:Env)(σ:L2.St)(H:Hp)(Q:VK):List Dt→Env→Prop:=fun ds ρ'=>∀ μ' p vs H' H'',Ch K S σ μ H ρ μ' H' ρ'→StOk ⟨K,μ'⟩ H0 A0 H' ρ' σ→Same H' H''→H' p=none→H'' p=some (.lst vs)→Ag ⟨K,μ'⟩ H'' (fun a=>Av ⟨K,μ'⟩ A0 ρ' σ lk a∨a=p) ds vs→Q (.ref p) H''
abbrev RMt(K:PySem.W.Frag)(S:List Nat)(μ:Mu)(H0:Hp)(A0:Ad)(ρ:Env)(σ:L2.St)(H:Hp)(Q:Bool→Hp→Prop):Bool→Env→Prop:=fun b ρ'=>∀ μ' H',Ch K S σ μ H ρ μ' H' ρ'→StOk ⟨K,μ'⟩ H0 A0 H' ρ' σ→Q b H'
def Hl(K:PySem.W.Frag)(W:WX)(S:List Nat)(te:TE)(f:Env→XO Dt)(lk:List Nat):Prop:=
 ∀ (μ:Mu) (H0:Hp) (A0:Ad) (ρ:Env) (σ:L2.St) (H:Hp) (Q:VK),StOk ⟨K,μ⟩ H0 A0 H ρ σ→BO K W μ H0 A0 σ (f ρ) (RM K S lk μ H0 A0 ρ σ H Q)→te σ H Q
def Xy(K:PySem.W.Frag)(W:WX)(S:List Nat)(ta:TA)(f:Env→XO (List Dt))(lk:List Nat):Prop:=
 ∀ (μ:Mu) (H0:Hp) (A0:Ad) (ρ:Env) (σ:L2.St) (H:Hp) (Q:List V→Hp→Prop),StOk ⟨K,μ⟩ H0 A0 H ρ σ→BO K W μ H0 A0 σ (f ρ) (RMs K S lk μ H0 A0 ρ σ H Q)→ta σ H Q
def Z1(K:PySem.W.Frag)(W:WX)(S:List Nat)(te:TE)(f:Env→XO (List Dt))(lk:List Nat):Prop:=
 ∀ (μ:Mu) (H0:Hp) (A0:Ad) (ρ:Env) (σ:L2.St) (H:Hp) (Q:VK),StOk ⟨K,μ⟩ H0 A0 H ρ σ→BO K W μ H0 A0 σ (f ρ) (RMl K S lk μ H0 A0 ρ σ H Q)→te σ H Q
def V1(K:PySem.W.Frag)(W:WX)(S:List Nat)(tt:TT)(f:Env→XO Bool):Prop:=
 ∀ (μ:Mu) (H0:Hp) (A0:Ad) (ρ:Env) (σ:L2.St) (H:Hp) (Q:Bool→Hp→Prop),StOk ⟨K,μ⟩ H0 A0 H ρ σ→BO K W μ H0 A0 σ (f ρ) (RMt K S μ H0 A0 ρ σ H Q)→tt σ H Q
def F3(X:Cx)(W:WX)(S:List Nat)(e:Expr)(f:Env→XO Dt)(lk:List Nat):Prop:=∃ te,PE X e te∧Hl X.K W S te f lk
def Y0(X:Cx)(W:WX)(S:List Nat)(es:List Expr)(f:Env→XO (List Dt))(lk:List Nat):Prop:=∃ ta,PA X es ta∧Xy X.K W S ta f lk
def PXL(X:Cx)(W:WX)(S:List Nat)(e:Expr)(f:Env→XO (List Dt))(lk:List Nat):Prop:=∃ te,PE X e te∧Z1 X.K W S te f lk
def Zv(X:Cx)(W:WX)(S:List Nat)(e:Expr)(f:Env→XO Bool):Prop:=∃ tt,PT X e tt∧V1 X.K W S tt f
theorem ae{te:TE}{f:Env→Out Dt}(h:DZ K W te f lk):Hl K W S te (xP f) lk:=fun μ H0 A0 ρ σ H Q s hp=>
 h _ _ _ _ _ _ _ s (BO.p s hp fun d _ q v H' hs r=>q μ v H' ((Ch.refl _ _ _).grow hs) (s.grow hs) r)
theorem ZA{ta:TA}{f:Env→Out (List Dt)}(h:Q1 K W ta f lk):Xy K W S ta (xP f) lk:=fun μ H0 A0 ρ σ H Q s hp=>
 h _ _ _ _ _ _ _ s (BO.p s hp fun d _ q v H' hs r=>q μ v H' ((Ch.refl _ _ _).grow hs) (s.grow hs) r)
theorem ZW{tt:TT}{f:Env→Out Bool}(h:OU K W tt f lk):V1 K W S tt (xP f):=fun μ H0 A0 ρ σ H Q s hp=>
 h _ _ _ _ _ _ _ s (BO.p s hp fun d _ q H' hs=>q μ H' ((Ch.refl _ _ _).grow hs) (s.grow hs))
def x1(fa:Env→XO Dt)(g:Dt→Option Dt):Env→XO Dt:=fun ρ=>(fa ρ).bind fun a ρ1=>(DY (g a)).x ρ1
def x2(fa fb:Env→XO Dt)(g:Dt→Dt→Option Dt):Env→XO Dt:=fun ρ=>(fa ρ).bind fun a ρ1=>(fb ρ1).bind fun b ρ2=>(DY (g a b)).x ρ2
def Zq(fa:Env→XO Dt)(g:Dt→Option Bool):Env→XO Bool:=fun ρ=>(fa ρ).bind fun a ρ1=>(DY (g a)).x ρ1
def QH(fa fb:Env→XO Dt)(g:Dt→Dt→Option Bool):Env→XO Bool:=fun ρ=>(fa ρ).bind fun a ρ1=>(fb ρ1).bind fun b ρ2=>(DY (g a b)).x ρ2
def xT(f:Env→XO Bool):Env→XO Dt:=fun ρ=>(f ρ).bind fun b ρ1=>.ok (.bl b) ρ1
def O3(f:Env→XO Bool):Env→XO Bool:=fun ρ=>(f ρ).bind fun b ρ1=>.ok (!b) ρ1
def Cy(f:Env→XO Dt)(g:Env→XO (List Dt)):Env→XO (List Dt):=fun ρ=>(f ρ).bind fun d ρ1=>(g ρ1).bind fun ds ρ2=>.ok (d :: ds) ρ2
def VT(f:Env→XO (List Dt)):Env→XO (List Dt):=fun ρ=>(f ρ).bind fun ds ρ1=>if ds.length≤16777216 then .ok ds ρ1 else .bad
def xB(g:List Dt→Option Dt)(f:Env→XO (List Dt)):Env→XO Dt:=fun ρ=>(f ρ).bind fun ds ρ1=>(DY (g ds)).x ρ1
theorem Xv{ta tb:TE}{fa fb:Env→XO Dt}{g:Dt→Dt→Option Dt}{r:R2}(hr:MI K r g)(ha:Hl K W S ta fa la)(hb:Hl K W S tb fb lb)(hd:∀ i,i∈S→i∉la):Hl K W S (tOp r ta tb) (x2 fa fb g) (la ++ lb):=by
 intro μ H0 A0 ρ σ H Q s h
 refine ha _ _ _ _ _ _ _ s (h.seq fun a ρ1 _ h1 μ1 v1 H1 c1 s1 r1=>?_)
 refine hb _ _ _ _ _ _ _ s1 ((h1.ext c1.xt).seq fun b ρ2 _ h2 μ2 v2 H2 c2 s2 r2=>?_)
 obtain ⟨d,e,q⟩:=h2.o
 exact hr μ2 H2 _ a b d v1 v2 Q (fun c z=>s2.Hq z) ((c2.rep hd r1).Bv fun _=>ZD) (r2.Bv fun _=>avR) e fun v H' hs r=>q μ2 v H' ((c1.trans c2).grow hs) (s2.grow hs) r
theorem Vy{ta tb:TE}{fa fb:Env→XO Dt}{g:Dt→Dt→Option Dt}{r:R2}(hr:MI K r g)(hg:∀ a b d,g a b=some d→d.scal=true)(ha:Hl K W S ta fa la)(hb:Hl K W S tb fb lb)(hd:∀ i,i∈S→i∉la):Hl K W S (tOp r ta tb) (x2 fa fb g) []:=by
 intro μ H0 A0 ρ σ H Q s h
 refine ha _ _ _ _ _ _ _ s (h.seq fun a ρ1 _ h1 μ1 v1 H1 c1 s1 r1=>?_)
 refine hb _ _ _ _ _ _ _ s1 ((h1.ext c1.xt).seq fun b ρ2 _ h2 μ2 v2 H2 c2 s2 r2=>?_)
 obtain ⟨d,e,q⟩:=h2.o
 exact hr μ2 H2 TN a b d v1 v2 Q (fun c z=>False.elim z) (c2.rep hd r1).TM r2.TM e fun v H' hs r=>q μ2 v H' ((c1.trans c2).grow hs) (s2.grow hs) (r.scal (hg _ _ _ e))
theorem ZU{ta tb:TE}{fa fb:Env→XO Dt}{g:Dt→Dt→Option Bool}{r:R2}(hr:KS K r g)(ha:Hl K W S ta fa la)(hb:Hl K W S tb fb lb)(hd:∀ i,i∈S→i∉la):V1 K W S (tTest (tOp r ta tb)) (QH fa fb g):=by
 intro μ H0 A0 ρ σ H Q s h
 refine ha _ _ _ _ _ _ _ s (h.seq fun a ρ1 _ h1 μ1 v1 H1 c1 s1 r1=>?_)
 refine hb _ _ _ _ _ _ _ s1 ((h1.ext c1.xt).seq fun b ρ2 _ h2 μ2 v2 H2 c2 s2 r2=>?_)
 obtain ⟨d,e,q⟩:=h2.o
 exact hr μ2 H2 TN a b d v1 v2 _ (c2.rep hd r1).TM r2.TM e ⟨d,rfl,q μ2 H2 (c1.trans c2) s2⟩
theorem VU{ta tb:TE}{fa fb:Env→XO Dt}{g:Dt→Dt→Option Bool}{r:R2}(hr:KS K r g)(ha:Hl K W S ta fa la)(hb:Hl K W S tb fb lb)(hd:∀ i,i∈S→i∉la):Hl K W S (tOp r ta tb) (xT (QH fa fb g)) []:=by
 intro μ H0 A0 ρ σ H Q s h
 unfold xT QH at h
 rw [XO.bind_assoc] at h
 refine ha _ _ _ _ _ _ _ s (h.seq fun a ρ1 _ h1 μ1 v1 H1 c1 s1 r1=>?_)
 rw [XO.bind_assoc] at h1
 refine hb _ _ _ _ _ _ _ s1 ((h1.ext c1.xt).seq fun b ρ2 _ h2 μ2 v2 H2 c2 s2 r2=>?_)
 cases e:g a b with
 | none=>rw [e] at h2; exact False.elim h2
 | some d=>
  rw [e] at h2
  exact hr μ2 H2 TN a b d v1 v2 _ (c2.rep hd r1).TM r2.TM e (h2 μ2 (.bl d) H2 (c1.trans c2) s2 rfl)
theorem W4{ta:TT}{fa:Env→XO Bool}(ha:V1 K W S ta fa):V1 K W S (tNot ta) (O3 fa):=by
 intro μ H0 A0 ρ σ H Q s h
 exact ha _ _ _ _ _ _ _ s (h.seq fun b ρ1 _ h1 μ1 H1 c1 s1=>h1 μ1 H1 c1 s1)
theorem T9{ta:TE}{tr:TA}{f:Env→XO Dt}{g:Env→XO (List Dt)}(ha:Hl K W S ta f la)(hr:Xy K W S tr g lb)(hd:∀ i,i∈S→i∉la):Xy K W S (tCons ta tr) (Cy f g) (la ++ lb):=by
 intro μ H0 A0 ρ σ H Q s h
 refine ha _ _ _ _ _ _ _ s (h.seq fun a ρ1 _ h1 μ1 v1 H1 c1 s1 r1=>?_)
 refine hr _ _ _ _ _ _ _ s1 ((h1.ext c1.xt).seq fun b ρ2 _ h2 μ2 v2 H2 c2 s2 r2=>?_)
 exact h2 μ2 _ H2 (c1.trans c2) s2 (Ag.cons ((c2.rep hd r1).Bv fun _=>ZD) (r2.Bv fun _=>avR))
theorem VL{ta:TA}{f:Env→XO (List Dt)}(ha:Xy K W S ta f la):Z1 K W S (tLst ta) (VT f) la:=by
 intro μ H0 A0 ρ σ H Q s h
 refine ha _ _ _ _ _ _ _ s (h.seq fun ds ρ1 _ h1 μ1 vs H1 c1 s1 r1=>?_)
 split at h1
 ·rename_i hl
  refine ⟨by rw [r1.length,sizeLine_eq]; exact hl,fun p hp=>h1 μ1 p vs H1 _ c1 s1 (Same.new hp) hp upd_same ?_⟩
  exact (Ag.fresh hp _ _ r1).same (Same.new hp)
 ·exact False.elim h1
theorem ah{ta:TA}{fs:Env→XO (List Dt)}{r:List V→Hp→VK→Prop}{g:List Dt→Option Dt}(hr:P9 K r g)(ha:Xy K W S ta fs lk):Hl K W S (tCB r ta) (xB g fs) lk:=by
 intro μ H0 A0 ρ σ H Q s h
 refine ha _ _ _ _ _ _ _ s (h.seq fun ds ρ1 _ h1 μ1 vs H1 c1 s1 r1=>?_)
 obtain ⟨d,e,q⟩:=h1.o
 exact hr _ H1 _ ds d vs Q (fun c z=>s1.Ez z) r1 e fun v H' hs r=>q μ1 v H' (c1.grow hs) (s1.grow hs) r
def xE{α:Type}(o:XO α)(k:α→Env→SOut):SOut:=match o with
 | .ok a ρ=>k a ρ
 | .exc x ρ=>.exc x ρ
 | .bad=>.bad
@[simp] theorem KN{α:Type}(a:α)(ρ:Env)(k:α→Env→SOut):xE (.ok a ρ) k=k a ρ:=rfl
theorem AK.xt{o:XO α}{k:α→Env→SOut}{D:Ends}{R:α→Env→Prop}(h:AK K W μ H0 A0 (xE o k) D)(hk:∀ a ρ,o=.ok a ρ→AK K W μ H0 A0 (k a ρ) D→R a ρ):BO K W μ H0 A0 σ o R:=by
 cases o with
 | ok a ρ=>exact hk a ρ rfl h
 | exc e ρ=>exact fun μ' H' c od y s r=>h μ' σ H' c od y s r
 | bad=>exact h
def Az(i:Nat)(f:Env→XO Dt)(lk:List Nat):Env→SOut:=fun ρ=>xE (f ρ) fun d ρ=>.ok .nx ((AI d lk ρ).set i (some (.sh d)))
def NV(i:Nat)(f:Env→XO (List Dt))(lk:List Nat):Env→SOut:=fun ρ=>xE (f ρ) fun ds ρ=>.ok .nx ((Mi ds lk ρ).set i (some (.ol ds)))
def N3(f:Env→XO Dt):Env→SOut:=fun ρ=>xE (f ρ) fun _ ρ=>.ok .nx ρ
def LQ(f:Env→XO Dt)(lk:List Nat):Env→SOut:=fun ρ=>xE (f ρ) fun d ρ=>.ok (.rt d) (AI d lk ρ)
def Kf(c:Env→XO Bool)(f g:Env→SOut):Env→SOut:=fun ρ=>xE (c ρ) fun b ρ=>if b=true then f ρ else g ρ
theorem Vt{te:TE}{f:Env→XO Dt}{i:Nat}(ha:Hl K W S te f la):F7 K W (tAsg te (gName i)) (Az i f la):=by
 intro μ H0 A0 ρ σ H D s h
 exact ha _ _ _ _ _ _ _ s (AK.xt h fun d ρ1 _ h1 μ1 v H1 c1 s1 r1=>h1 μ1 _ _ c1.xt (s1.give (Same.refl _) r1))
theorem SN{te:TE}{f:Env→XO (List Dt)}{i:Nat}(ha:Z1 K W S te f la):F7 K W (tAsg te (gName i)) (NV i f la):=by
 intro μ H0 A0 ρ σ H D s h
 exact ha _ _ _ _ _ _ _ s (AK.xt h fun d ρ1 _ h1 μ1 p vs H1 H2 c1 s1 hs hp hp' r1=>h1 μ1 _ _ c1.xt (s1.Xr hs hp hp' r1))
theorem SA{te:TE}{f:Env→XO Dt}(ha:Hl K W S te f la):F7 K W (tDrop te) (N3 f):=by
 intro μ H0 A0 ρ σ H D s h
 exact ha _ _ _ _ _ _ _ s (AK.xt h fun d ρ1 _ h1 μ1 v H1 c1 s1 r1=>h1 μ1 _ _ c1.xt s1)
theorem Vl{te:TE}{f:Env→XO Dt}(ha:Hl K W S te f la):F7 K W (tRet te) (LQ f la):=by
 intro μ H0 A0 ρ σ H D s h
 refine ha _ _ _ _ _ _ _ s (AK.xt h fun d ρ1 _ h1 μ1 v H1 c1 s1 r1=>?_)
 obtain ⟨s2,r2⟩:=s1.O7 r1
 exact h1 μ1 _ _ _ c1.xt s2 r2
theorem VW{tc:TT}{t u:TS}{c:Env→XO Bool}{f g:Env→SOut}(hc:V1 K W S tc c)(ht:F7 K W t f)(hu:F7 K W u g):F7 K W (tIfS tc t u) (Kf c f g):=by
 intro μ H0 A0 ρ σ H D s h
 refine hc _ _ _ _ _ _ _ s (AK.xt h fun b ρ1 _ h1 μ1 H1 c1 s1=>?_)
 cases b with
 | true=>exact ht _ _ _ _ _ _ _ s1 (AK.ext c1.xt h1)
 | false=>exact hu _ _ _ _ _ _ _ s1 (AK.ext c1.xt h1)
end
end FD
namespace FD
open PySem L2 PyProof.Rows PySem.Spec
def BY(n:Nat)(ρ:Env):Option (List Cell):=match ρ[n]? with
 | some (some (.mh cs))=>some cs
 | _=>none
theorem B3{n:Nat}{ρ:Env}{cs:List Cell}(h:BY n ρ=some cs):ρ[n]? = some (some (.mh cs)):=by
 unfold BY at h
 split at h
 ·rename_i c e
  cases h
  exact e
 ·cases h
def Cell.nl:Cell→Bool
 | .gone=>true
 | .lst ds=>Dt.Sm ds
 | .dic _ ds=>Dt.Sm ds
 | .ins _ _ ds=>Dt.Sm ds
def Lv(κ:KM)(cs:List Cell):Ad:=fun a=>Bq κ (.mh cs) none a
def Zi:Hp:=fun _=>none
inductive MO where
 | ok (d:Dt) (cs:List Cell) | exc (x:Exn) (cs:List Cell) | bad
structure MCh (K:PySem.W.Frag) (A:Ad) (μ:Mu) (cs:List Cell) (H:Hp) (μ':Mu) (cs':List Cell) (H':Hp):Prop where
 xt:Xt μ μ'
 keep:∀ a o,H a=some o→¬ Lv ⟨K,μ⟩ cs a→H' a=some o
 own:∀ a,Lv ⟨K,μ'⟩ cs' a→Lv ⟨K,μ⟩ cs a∨H a=none
 ok:CW ⟨K,μ'⟩ Zi H' (fun a=>A a∨Lv ⟨K,μ'⟩ cs' a) (.mh cs') none
def Qm(K:PySem.W.Frag)(A:Ad)(μ:Mu)(cs:List Cell)(H:Hp)(Q:VK)(E:XK)(o:MO):Prop:=match o with
 | .ok d cs'=>∀ μ' v H',MCh K A μ cs H μ' cs' H'→Rep ⟨K,μ'⟩ H' (fun a=>A a∨Lv ⟨K,μ'⟩ cs' a) d v→Q v H'
 | .exc x cs'=>∀ μ' c od H',MCh K A μ cs H μ' cs' H'→Kb K H' x c od→E c od H'
 | .bad=>False
def spM(K:PySem.W.Frag)(φ:List Dt→List Cell→MO):Sp:=fun vs H Q E=>∃ (ds:List Dt) (A:Ad) (μ:Mu) (cs:List Cell),Ag ⟨K,μ⟩ H (fun a=>A a∨Lv ⟨K,μ⟩ cs a) ds vs∧CW ⟨K,μ⟩ Zi H (fun a=>A a∨Lv ⟨K,μ⟩ cs a) (.mh cs) none ∧
 (∀ a,A a→Mut (H a))∧(∀ a,A a→¬ Lv ⟨K,μ⟩ cs a)∧μ.fix=false∧Qm K A μ cs H Q E (φ ds cs)
def runM(n:Nat)(g:Env→SOut)(ds:List Dt)(cs:List Cell):MO:=match g (ds.map (fun d=>some (Lo.sh d)) ++ List.replicate (n - ds.length) none ++ [some (.mh cs)]) with
 | .ok .nx ρ=>(match BY n ρ with
  | some cs'=>.ok .non cs'
  | none=>.bad)
 | .ok (.rt d) ρ=>(match BY n ρ with
  | some cs'=>.ok d cs'
  | none=>.bad)
 | .exc x ρ=>(match BY n ρ with
  | some cs'=>.exc x cs'
  | none=>.bad)
 | _=>.bad
def J9(n:Nat)(φ:List Dt→List Cell→MO)(ds:List Dt)(cs:List Cell):MO:=if ds.length=n then φ ds cs else .bad
def LS(K:PySem.W.Frag)(n:Nat)(φ:List Dt→List Cell→MO):Sp:=fun vs H Q E=>vs.length=n∧spM K φ vs H Q E
section
variable {P:Program} {w:World} {K:PySem.W.Frag} {mg:Str→Option Value} {base:Heap} {H:Hp} {A:Ad} {μ:Mu} {cs:List Cell}
open Classical in
noncomputable def Hm(κ:KM)(cs:List Cell)(H:Hp):Hp:=fun a=>if Lv κ cs a then none else H a
theorem CW.VP{H0 H0':Hp}{A':Ad}{s s':Option (Option V)}{κ:KM}(h:CW κ H0 H A (.mh cs) s)(h0:∀ a,Lv κ cs a→H0 a=none→H0' a=none)(ha:∀ a,A' a→A a∨H a=none):CW κ H0' H A' (.mh cs) s':=
 CW.gen (F:=κ.K) (m:=κ.mu) (m':=κ.mu) (sv:=s') (Xt.refl _) (fun _=>rfl) (fun _ _ _ e=>e) ha (fun _ _ _ e=>e) (fun a o e=>h0 a o e) (show CW κ H0 H A (.mh cs) s' from h)
theorem MK{N:List Str}{n:Nat}{ds:List Dt}{vs:List V}(hN:N.length=n + 1)(hl:ds.length≤n)(r:Ag ⟨K,μ⟩ H (fun a=>A a∨Lv ⟨K,μ⟩ cs a) ds vs)(hm:CW ⟨K,μ⟩ Zi H (fun a=>A a∨Lv ⟨K,μ⟩ cs a) (.mh cs) none)(ha:∀ a,A a→Mut (H a))
  (hd:∀ a,A a→¬ Lv ⟨K,μ⟩ cs a) (hf:μ.fix=false):StOk ⟨K,μ⟩ (Hm ⟨K,μ⟩ cs H) A H (ds.map (fun d=>some (Lo.sh d)) ++ List.replicate (n - ds.length) none ++ [some (.mh cs)]) (L2.start N vs):=by
 have hlen:(ds.map (fun d=>some (Lo.sh d)) ++ List.replicate (n - ds.length) (none:Option Lo)).length=n:=by simp; omega
 have cases':∀ (i:Nat) (l:Lo),(ds.map (fun d=>some (Lo.sh d)) ++ List.replicate (n - ds.length) none ++ [some (.mh cs)])[i]? = some (some l)→(∃ d,ds[i]? = some d∧l=.sh d)∨(i=n∧l=.mh cs):=fun i l e=>by
  by_cases hi:i < n
  ·rw [List.getElem?_append_left (by rw [hlen]; exact hi)] at e
   left
   by_cases h:i < ds.length
   ·rw [List.getElem?_append_left (by simpa using h),List.getElem?_map,List.getElem?_eq_getElem h] at e
    cases e
    exact ⟨_,List.getElem?_eq_getElem h,rfl⟩
   ·rw [List.getElem?_append_right (by simpa using Nat.le_of_not_lt h),List.getElem?_replicate] at e
    split at e <;> cases e
  ·rw [List.getElem?_append_right (by rw [hlen]; omega),hlen] at e
   cases hz:i - n with
   | zero=>
    rw [hz] at e
    cases e
    exact .inr ⟨by omega,rfl⟩
   | succ k=>rw [hz] at e; cases e
 have ow:∀ i a,AH ⟨K,μ⟩ (ds.map (fun d=>some (Lo.sh d)) ++ List.replicate (n - ds.length) none ++ [some (.mh cs)]) (L2.start N vs) i a→i=n∧Lv ⟨K,μ⟩ cs a:=by
  rintro i a ⟨l,e,ho⟩
  rcases cases' i l e with ⟨d,_,rfl⟩ | ⟨h,rfl⟩
  ·exact False.elim ho
  ·exact ⟨h,ho⟩
 have av:∀ a,Av ⟨K,μ⟩ A (ds.map (fun d=>some (Lo.sh d)) ++ List.replicate (n - ds.length) none ++ [some (.mh cs)]) (L2.start N vs) [] a→A a∨Lv ⟨K,μ⟩ cs a:=by
  rintro a (z | ⟨i,_,z⟩)
  ·exact .inl z
  ·exact .inr (ow i a z).2
 refine ⟨fun a o e=>?_,fun a z=>?_,?_,fun i l e=>?_,fun i j a h1 h2=>(ow i a h1).1.trans (ow j a h2).1.symm,fun i j c1 c2 e1 e2=>?_,fun z=>by rw [hf] at z; cases z⟩
 ·unfold Hm at e
  split at e
  ·cases e
  ·exact e
 ·unfold Hm
  rw [if_neg (hd a z)]
  exact ha a z
 ·unfold L2.start
  simp [r.length,hN]
  omega
 ·rcases cases' i l e with ⟨d,e1,rfl⟩ | ⟨h,rfl⟩
  ·obtain ⟨v,e3,r3⟩:=r.get e1
   refine ⟨v,?_,r3.Bv fun a z=>av a z⟩
   unfold L2.start
   have hi:i < vs.length:=(List.getElem?_eq_some_iff.mp e3).1
   rw [List.getElem?_append_left (by simpa using hi),List.getElem?_map,e3]
   rfl
  ·exact hm.VP (fun a z _=>by unfold Hm; rw [if_pos z]) fun a z=>.inl (av a z)
 ·rcases cases' i _ e1 with ⟨d,_,z⟩ | ⟨h,_⟩
  ·cases z
  ·rcases cases' j _ e2 with ⟨d,_,z⟩ | ⟨h',_⟩
   ·cases z
   ·rw [h,h']
theorem Qu{n:Nat}{μ':Mu}{H':Hp}{ρ:Env}{σ:L2.St}{cs':List Cell}(x:Xt μ μ')(s:StOk ⟨K,μ'⟩ (Hm ⟨K,μ⟩ cs H) A H' ρ σ)(e:BY n ρ=some cs'):MCh K A μ cs H μ' cs' H'∧∀ a,(A a∨Lv ⟨K,μ'⟩ cs' a)→Av ⟨K,μ'⟩ A ρ σ [] a:=by
 have he:=B3 e
 have lo:=s.lo n _ he
 have av:∀ a,(A a∨Lv ⟨K,μ'⟩ cs' a)→Av ⟨K,μ'⟩ A ρ σ [] a:=fun a z=>z.imp id fun z=>⟨n,(fun q=>nomatch q),_,he,z⟩
 refine ⟨⟨x,fun a o e n=>s.same a o (by unfold Hm; rw [if_neg n]; exact e),fun a z=>?_,lo.VP (fun a _ _=>rfl) fun a z=>.inl (av a z)⟩,av⟩
 have q:=(lo.own (a:=a) z).2
 unfold Hm at q
 split at q
 ·exact .inl ‹_›
 ·exact .inr q
theorem Te{N:List Str}{n:Nat}{ds:List Dt}{vs:List V}{g:Env→SOut}{ts:TS}{Q:VK}{E:XK}(hN:N.length=n + 1)(hl:ds.length≤n)(hd:F7 K (fun c d _ H'=>E c d H') ts g)(r:Ag ⟨K,μ⟩ H (fun a=>A a∨Lv ⟨K,μ⟩ cs a) ds vs)
  (hm:CW ⟨K,μ⟩ Zi H (fun a=>A a∨Lv ⟨K,μ⟩ cs a) (.mh cs) none) (ha:∀ a,A a→Mut (H a)) (hda:∀ a,A a→¬ Lv ⟨K,μ⟩ cs a) (hf:μ.fix=false)
  (h:Qm K A μ cs H Q E (runM n g ds cs)):ts { nx:=fun _ H'=>Q .non H',rt:=Q } (L2.start N vs) H:=by
 refine hd μ _ A _ _ H _ (MK hN hl r hm ha hda hf) ?_
 unfold runM at h
 cases e:g (ds.map (fun d=>some (Lo.sh d)) ++ List.replicate (n - ds.length) none ++ [some (.mh cs)]) with
 | ok fl ρ=>
  rw [e] at h
  cases fl with
  | nx=>
   intro μ' σ H' y s'
   simp only at h
   split at h
   ·rename_i cs' ec
    exact h μ' .non H' (Qu y s' ec).1 rfl
   ·exact False.elim h
  | rt d=>
   intro μ' v σ H' y s' r'
   simp only at h
   split at h
   ·rename_i cs' ec
    obtain ⟨m,av⟩:=Qu y s' ec
    exact h μ' v H' m (r'.Bv av)
   ·exact False.elim h
  | bk=>exact h.elim
  | ct=>exact h.elim
 | exc x ρ=>
  rw [e] at h
  intro μ' σ H' c od y s' r'
  simp only at h
  split at h
  ·rename_i cs' ec
   exact h μ' c od H' (Qu y s' ec).1 r'
  ·exact False.elim h
 | bad=>rw [e] at h; exact h.elim
structure ClM (P:Program) (w:World) (K:PySem.W.Frag) (mg:Str→Option Value) (base:Heap) (x:Str) (k:Nat) (φ:List Dt→List Cell→MO):Prop where
 ex:∃ (f:Addr),FnR P w K mg base (L2N.CX P w) k f (spM K φ)∧mg x=some (.ref f)∧PySem.W.keepIn K (.ref f)=true
theorem FT{x:Str}{f:Addr}{fd:FuncData}{ps:List Str}{k n:Nat}{φ:List Dt→List Cell→MO}(F:FnOk P w K mg base (L2N.CX P w) k f fd ps (LS K n φ))(hm:mg x=some (.ref f))(hk:PySem.W.keepIn K (.ref f)=true)(hb:Binds K fd ps []):ClM P w K mg base x k (J9 n φ):=by
 refine ⟨f,FnR.imp (F.raw hb .nil) (fun vs H Q E h=>?_),hm,hk⟩
 obtain ⟨ds,A,μ,cs,r,hm,ha,hd,hf,h⟩:=h
 unfold J9 at h
 by_cases hl:ds.length=n
 ·rw [if_pos hl] at h
  rw [List.append_nil]
  exact ⟨by rw [r.length]; exact hl,ds,A,μ,cs,r,hm,ha,hd,hf,h⟩
 ·rw [if_neg hl] at h
  exact False.elim h
theorem Ee{x qual:Str}{params:Arguments}{body:List Stmt}{scope:Scope}{dvs:List V}{kws:List (Str × V)}{f:Addr}{fd:FuncData}{N ps:List Str}{k n:Nat}{g:Env→SOut}(F:FunD K x qual params body scope dvs kws f fd)(S:FnScope N ps scope)(hN:N.length=n + 1)(hp:ps.length≤n)
  (hb:∀ (cdv:Value) (A:Around) (outer:List PySem.Env) (s:Shared) (H:Hp) (E:XK),Room k (A.deeper (envOfC qual scope s.heap.objs.size f cdv)) →
   F0 (cxOf (L2N.CX P w) P w K mg base N qual scope f cdv A outer s H E) (fun c d _ H'=>E c d H') body g):
  FnOk P w K mg base (L2N.CX P w) (k + 1) f fd ps (LS K ps.length (runM n g)):=by
 refine F.ok S (fun vs H Q E h=>h.1) (fun cdv A outer s H vs Q E hr h=>?_)
 obtain ⟨hl,ds,A',μ,cs,r,hm,ha,hd,hf,h⟩:=h
 obtain ⟨ts,hp',hdd⟩:=hb cdv A outer s H E hr
 exact ⟨ts,hp',Te hN (by rw [← r.length,hl]; exact hp) hdd r hm ha hd hf h⟩
end
def A7(ρ:Env)(lk:List Nat)(d:Option Dt)(cs:List Cell):Bool:=lk.all (EZ ρ) || ((match d with
 | some d=>d.nl
 | none=>true) && cs.all Cell.nl && lk.all (Hr ρ))
def Am(n:Nat)(φ:List Dt→List Cell→MO)(f:Env→XO (List Dt))(lk:List Nat):Env→XO Dt:=fun ρ=>(f ρ).bind fun ds ρ1=>match BY n ρ1 with
 | some cs=>(match φ ds cs with
  | .ok d cs'=>if A7 ρ1 lk (some d) cs'=true then .ok d (ρ1.set n (some (.mh cs'))) else .bad
  | .exc x cs'=>if A7 ρ1 lk none cs'=true then .exc x (ρ1.set n (some (.mh cs'))) else .bad
  | .bad=>.bad)
 | none=>.bad
section
variable {K:PySem.W.Frag} {S:List Nat} {σ:L2.St} {μ μ':Mu} {H H' H0:Hp} {ρ:Env} {A0:Ad} {lk:List Nat} {W:WX} {d:Dt} {v:V} {cs cs':List Cell} {n:Nat}
theorem Cell.nlOk{κ:KM}{A A':Ad}{c:Cell}{a:Addr}(hc:c.nl=true)(hm:∀ a,A' a→A a∨LD (H a))(h:D5 κ H0 H A c a):D5 κ H0 H A' c a:=by
 cases c with
 | gone=>exact h
 | lst ds=>obtain ⟨z,vs,e,r⟩:=h; exact ⟨z,vs,e,Ag.nl hm _ _ hc r⟩
 | dic ks ds=>obtain ⟨z,vs,e,e2,r⟩:=h; exact ⟨z,vs,e,e2,Ag.nl hm _ _ hc r⟩
 | ins C ns ds=>obtain ⟨z,dx,fs,e,e2,r⟩:=h; exact ⟨z,dx,fs,e,e2,Ag.nl hm _ _ hc r⟩
theorem WQ(s:StOk ⟨K,μ⟩ H0 A0 H ρ σ)(e:ρ[n]? = some (some (.mh cs)))(hn:n∉lk){o:Option Dt}(hl:A7 ρ lk o cs'=true)(hk:∀ a o,H a=some o→¬ Lv ⟨K,μ⟩ cs a→H' a=some o):
  (∀ a,Av ⟨K,μ⟩ A0 ρ σ [n] a→Av ⟨K,μ⟩ A0 ρ σ (n :: lk) a)∨((∀ d,o=some d→d.nl=true)∧cs'.all Cell.nl=true∧∀ a,Av ⟨K,μ⟩ A0 ρ σ [n] a→Av ⟨K,μ⟩ A0 ρ σ (n :: lk) a∨LD (H' a)):=by
 unfold A7 at hl
 rw [Bool.or_eq_true] at hl
 rcases hl with hl | hl
 ·refine .inl fun a z=>?_
  rcases z with z | ⟨i,ni,l,e1,ho⟩
  ·exact .inl z
  ·refine .inr ⟨i,fun q=>?_,l,e1,ho⟩
   rcases List.mem_cons.mp q with q | q
   ·exact ni (List.mem_singleton.mpr q)
   ·have w:=List.all_eq_true.mp hl i q
    unfold EZ at w
    rw [e1] at w
    cases l with
    | sh d=>exact ho
    | _=>cases w
 ·rw [Bool.and_eq_true,Bool.and_eq_true] at hl
  obtain ⟨⟨h1,h2⟩,h3⟩:=hl
  refine .inr ⟨fun d z=>by rw [z] at h1; exact h1,h2,fun a z=>?_⟩
  rcases z with z | ⟨i,ni,l,e1,ho⟩
  ·exact .inl (.inl z)
  ·by_cases hi:i∈lk
   ·have w:=List.all_eq_true.mp h3 i hi
    unfold Hr at w
    rw [e1] at w
    have q:=(s.lo i l e1).RD w ho
    obtain ⟨⟨u,hu⟩,_⟩:=s.BW (i:=i) (a:=a) ⟨l,e1,ho⟩
    have nl:¬ Lv ⟨K,μ⟩ cs a:=fun z=>ni (List.mem_singleton.mpr (s.ap i n a ⟨l,e1,ho⟩ ⟨_,e,z⟩))
    refine .inr ?_
    rw [hk a u hu nl]
    rw [hu] at q
    exact q
   ·exact .inl (.inr ⟨i,fun q=>(List.mem_cons.mp q).elim (fun q=>ni (List.mem_singleton.mpr q)) hi,l,e1,ho⟩)
theorem StOk.called(s:StOk ⟨K,μ⟩ H0 A0 H ρ σ)(e:ρ[n]? = some (some (.mh cs)))(hn:n∉lk){o:Option Dt}(hl:A7 ρ lk o cs'=true)(m:MCh K (Av ⟨K,μ⟩ A0 ρ σ (n :: lk)) μ cs H μ' cs' H'):
  StOk ⟨K,μ'⟩ H0 A0 H' (ρ.set n (some (.mh cs'))) σ∧(n∈S→Ch K S σ μ H ρ μ' H' (ρ.set n (some (.mh cs')))) ∧
  (∀ d v,o=some d→Rep ⟨K,μ'⟩ H' (fun a=>Av ⟨K,μ⟩ A0 ρ σ (n :: lk) a∨Lv ⟨K,μ'⟩ cs' a) d v→Rep ⟨K,μ'⟩ H' (Av ⟨K,μ'⟩ A0 (ρ.set n (some (.mh cs'))) σ []) d v):=by
 have hi:n < σ.length:=by rw [s.len]; exact (List.getElem?_eq_some_iff.mp e).1
 have hnl:n < ρ.length:=(List.getElem?_eq_some_iff.mp e).1
 have lo0:∀ a,Lv ⟨K,μ⟩ cs a→H0 a=none:=fun a z=>(s.BW (i:=n) ⟨_,e,z⟩).2
 have lv0:∀ a,Lv ⟨K,μ'⟩ cs' a→H0 a=none:=fun a z=>(m.own a z).elim (lo0 a) fun q=>s.same.free q
 have nown:∀ a,¬ AH ⟨K,μ⟩ ρ σ n a→¬ Lv ⟨K,μ⟩ cs a:=fun a h z=>h ⟨_,e,z⟩
 have av:=WQ s e hn hl m.keep
 have st:=StOk.JH (F:=K) (m:=μ) (m':=μ') (H':=H') s n (some (.mh cs')) σ[n] m.xt (.inr ⟨cs,e⟩) (fun a o q=>m.keep a o (s.same a o q) fun z=>by rw [lo0 a z] at q; cases q) (fun a o q h=>m.keep a o q (nown a h))
  (fun l e2 a h=>by cases e2; exact (m.own a h).imp (fun z=>⟨_,e,z⟩) id) (fun _ _=>⟨cs,e⟩) fun l e2 A' hA=>by
   cases e2
   rcases av with av | ⟨_,hc,av⟩
   ·exact m.ok.VP (fun a z _=>lv0 a z) fun a z=>.inl ((hA a z).imp (av a) id)
   ·obtain ⟨n1,n2,n3⟩:=m.ok
    refine ⟨n1,n2,fun k c a e1 e2=>?_⟩
    have hcc:=List.all_eq_true.mp hc c (List.mem_of_getElem? e1)
    have q:=Cell.nlOk (A':=A') hcc (fun a z=>(hA a z).elim (fun z=>(av a z).imp .inl id) fun z=>.inl (.inr z)) (n3 k c a e1 e2)
    exact q.gen (Xt.refl _) (fun _ _ _ e=>e) (fun _ z=>.inl z) (fun _ _ e=>e) fun hv _=>lv0 a ⟨k,c,e1,hv,e2⟩
 rw [Bc (List.getElem?_eq_getElem hi)] at st
 have av':∀ a,Av ⟨K,μ'⟩ A0 (ρ.set n (some (.mh cs'))) σ [] a→Av ⟨K,μ⟩ A0 ρ σ [n] a∨Lv ⟨K,μ'⟩ cs' a:=fun a z=>by
  rcases z with z | ⟨i,_,l,e1,ho⟩
  ·exact .inl (.inl z)
  ·by_cases h:n=i
   ·subst h
    rw [List.getElem?_set_self hnl] at e1
    cases e1
    exact .inr ho
   ·rw [List.getElem?_set_ne h] at e1
    refine .inl (.inr ⟨i,fun q=>h (List.mem_singleton.mp q).symm,l,e1,ho.ext fun q=>?_⟩)
    cases l with
    | mh c=>exact absurd (s.one n i _ _ e e1) h
    | _=>cases q
 refine ⟨st,fun hS=>⟨m.xt,fun a o q h=>m.keep a o q (nown a (h n hS)),fun j hj=>List.getElem?_set_ne fun (z:n=j)=>hj (by rw [← z]; exact hS),fun j a hj h=>?_,.inr fun j c q=>by rw [s.one j n _ _ q e]; exact hS⟩,fun d v eo r=>?_⟩
 ·obtain ⟨l,e1,ho⟩:=h
  by_cases h:n=j
  ·subst h
   rw [List.getElem?_set_self hnl] at e1
   cases e1
   exact (m.own a ho).imp (fun z=>⟨n,hS,_,e,z⟩) id
  ·rw [List.getElem?_set_ne h] at e1
   refine .inl ⟨j,hj,l,e1,ho.ext fun q=>?_⟩
   cases l with
   | mh c=>exact absurd (s.one n j _ _ e e1) h
   | _=>cases q
 ·rcases av with av | ⟨hd,_,av⟩
  ·exact r.Bv fun a z=>(av' a z).imp (av a) id
  ·refine Rep.nl (fun a z=>?_) d v (hd d eo) r
   rcases av' a z with z | z
   ·exact (av a z).imp .inl id
   ·exact .inl (.inr z)
theorem S8{ta:TA}{fs:Env→XO (List Dt)}{φ:List Dt→List Cell→MO}(hS:n∈S)(hn:n∉lk)(ha:Xy K W S ta fs lk):Hl K W S (Uu (spM K φ) (WE W) ta) (Am n φ fs lk) []:=by
 intro μ H0 A0 ρ σ H Q s h
 refine ha _ _ _ _ _ _ _ s (h.seq fun ds ρ1 _ h1 μ1 vs H1 c1 s1 r1=>?_)
 split at h1
 ·rename_i cs ec
  have e:=B3 ec
  have lo:=s1.lo n _ e
  have avs:∀ a,(Av ⟨K,μ1⟩ A0 ρ1 σ (n :: lk) a∨Lv ⟨K,μ1⟩ cs a)→Av ⟨K,μ1⟩ A0 ρ1 σ lk a:=fun a z=>z.elim (fun z=>Av.sub (fun i hi=>List.mem_cons_of_mem _ hi) z) fun z=>.inr ⟨n,hn,_,e,z⟩
  refine ⟨ds,Av ⟨K,μ1⟩ A0 ρ1 σ (n :: lk),μ1,cs,r1.Bv avs,lo.VP (fun a _ _=>rfl) (fun a z=>.inl (avs a z).nil),fun a z=>s1.Ez z,fun a z q=>?_,?_,?_⟩
  ·rcases z with z | ⟨i,ni,z⟩
   ·have q1:=s1.a0 a z
    rw [(s1.BW (i:=n) ⟨_,e,q⟩).2] at q1
    exact q1
   ·exact ni (by rw [s1.ap i n a z ⟨_,e,q⟩]; exact List.mem_cons_self)
  ·cases hf:μ1.fix with
   | false=>rfl
   | true=>exact absurd e (s1.nm hf n cs)
  ·unfold Qm
   cases eo:φ ds cs with
   | ok d cs'=>
    rw [eo] at h1
    simp only at h1
    split at h1
    ·rename_i hl
     intro μ' v H' m r
     obtain ⟨st,ch,rp⟩:=s1.called (S:=S) e hn hl m
     exact h1 μ' v H' (c1.trans (ch hS)) st (rp d v rfl r)
    ·exact False.elim h1
   | exc x cs'=>
    rw [eo] at h1
    simp only at h1
    split at h1
    ·rename_i hl
     intro μ' c od H' m r
     obtain ⟨st,ch,rp⟩:=s1.called (S:=S) e hn hl m
     exact h1 μ' H' c od (c1.xt.trans m.xt) st r
    ·exact False.elim h1
   | bad=>rw [eo] at h1; exact h1
 ·exact False.elim h1
end
end FD
namespace FD
open PySem L2 PyProof.Rows PySem.Spec
def Cell.d:Cell→Option Dt
 | .lst ds=>some (.lst ds)
 | .dic ks ds=>some (.dic ks ds)
 | .ins C ns ds=>some (.obj C ns ds)
 | .gone=>none
def Uj(cs:Option (List Cell))(d:Dt):Option Dt:=match d with
 | .ad k=>cs.bind fun cs=>(cs[k]?).bind Cell.d
 | d=>some d
def Fj(n:Nat)(f:Env→Out Dt):Env→Out Dt:=fun ρ=>(f ρ).bind fun d=>DY (Uj (BY n ρ) d)
section
variable {K:PySem.W.Frag} {S:List Nat} {σ:L2.St} {μ μ':Mu} {H H' H0:Hp} {ρ:Env} {A0:Ad} {lk la lb:List Nat} {W:WX} {d:Dt} {v:V} {cs cs':List Cell} {n:Nat}
theorem JA(s:StOk ⟨K,μ⟩ H0 A0 H ρ σ){k:Nat}{ds:List Dt}{b:Addr}(ec:BY n ρ=some cs)(e1:cs[k]? = some (.lst ds))(eb:μ.l[k]? = some b):∃ vs,H b=some (.lst vs)∧H0 b=none∧Ag ⟨K,μ⟩ H (Av ⟨K,μ⟩ A0 ρ σ []) ds vs:=by
 obtain ⟨_,_,hc⟩:=s.lo n _ (B3 ec)
 obtain ⟨z,vs,h1,r⟩:=hc k _ b e1 eb
 exact ⟨vs,h1,z,r⟩
theorem Vs(i:Nat){tb:TE}{fb:Env→Out Dt}(hb:DZ K W tb fb lb):DZ K W (tOp (rIx K) (tVar i) tb) (e2 (Fj n (Ab i)) fb A4) []:=by
 intro μ H0 A0 ρ σ H Q s h
 unfold e2 Fj Ab at h
 split at h
 ·exact False.elim h
 ·rename_i l hn e
  simp only [Out.AB] at h
  by_cases hk:∃ k,l=.sh (.ad k)
  ·obtain ⟨k,rfl⟩:=hk
   obtain ⟨v,e4,r4⟩:=s.lo i _ e
   unfold Rep at r4
   obtain ⟨b,eb,rfl⟩:=r4
   refine ⟨_,e4,?_⟩
   cases ed:Uj (BY n ρ) (Lo.sh (.ad k)).d with
   | none=>rw [ed] at h; exact False.elim h
   | some x=>
    rw [ed] at h
    simp only [Co,Out.AB] at h
    refine hb _ _ _ _ _ _ _ s (h.seq fun y _ h2 v2 H2 s2 r2=>?_)
    obtain ⟨d,e3,q⟩:=Bt h2
    obtain ⟨cs,ec,e'⟩:=Option.bind_eq_some_iff.mp (show (BY n ρ).bind (fun cs=>(cs[k]?).bind Cell.d)=some x from ed)
    obtain ⟨c,e1,e2⟩:=Option.bind_eq_some_iff.mp e'
    cases c with
    | gone=>cases e2
    | dic ks ds=>cases e2; cases y <;> cases e3
    | ins C ns ds=>cases e2; cases y <;> cases e3
    | lst ds=>
     cases e2
     cases y <;> try (cases e3; done)
     rename_i z _
     obtain ⟨vs,h1,_,r⟩:=JA s ec e1 eb
     have e5:v2=.int z:=r2
     subst e5
     obtain ⟨w,e6,r6⟩:=(r.same s2).at (show atI ds z=some d from e3)
     exact .inl ⟨b,vs,z,w,rfl,rfl,SqL.of (s2 _ _ h1),e6,q _ _ s2 r6⟩
  ·refine Rr (W:=W) i hb μ H0 A0 ρ σ H Q s ?_
   have hd:Uj (BY n ρ) l.d=some l.d:=by
    cases l with
    | sh d=>
     cases d with
     | ad k=>exact absurd ⟨k,rfl⟩ hk
     | _=>rfl
    | ol ds=>rfl
    | od ks ds=>rfl
    | ot ks ds=>rfl
    | mh cs=>exact (hn cs rfl).elim
   rw [hd] at h
   have ev:Ab i ρ=.ok l.d:=by
    unfold Ab
    rw [e]
    cases l with
    | mh cs=>exact (hn cs rfl).elim
    | _=>rfl
   unfold e2
   rw [ev]
   exact h
 ·exact False.elim h
def V0(n:Nat)(x i d:Dt)(ρ:Env):Option Env:=match x,i with
 | .ad k,.int z=>(BY n ρ).bind fun cs=>match cs[k]? with
  | some (.lst ds)=>(ixN ds.length z).map fun j=>ρ.set n (some (.mh (cs.set k (.lst (ds.set j d)))))
  | _=>none
 | _,_=>none
def G5(n:Nat)(fx fi:Env→Out Dt)(f:Env→XO Dt)(lk:List Nat):Env→SOut:=fun ρ=>xE (f ρ) fun d ρ1=>F8 (fx (AI d lk ρ1)) (AI d lk ρ1) fun x=>F8 (fi (AI d lk ρ1)) (AI d lk ρ1) fun i=>match V0 n x i d (AI d lk ρ1) with
 | some ρ'=>.ok .nx ρ'
 | none=>.bad
theorem QJ{te tx ti:TE}{f:Env→XO Dt}{fx fi:Env→Out Dt}(ha:Hl K W S te f lk)(hx:DZ K W tx fx la)(hi:DZ K W ti fi lb):F7 K W (tAsg te (gSub tx ti rSetL)) (G5 n fx fi f lk):=by
 intro μ H0 A0 ρ σ H D s h
 unfold G5 at h
 refine ha _ _ _ _ _ _ _ s (AK.xt h fun d ρ1 _ h1 μ1 v H1 c1 s1 r1=>?_)
 obtain ⟨s2,r2⟩:=s1.O7 r1
 refine hx _ _ _ _ _ _ _ s2 (AK.st s2 (h1.ext c1.xt) fun x _ h2 w H2 g2 rx=>?_)
 have s3:=s2.grow g2
 refine hi _ _ _ _ _ _ _ s3 (AK.st s3 h2 fun i _ h3 w' H3 g3 ri=>?_)
 have s4:=s3.grow g3
 split at h3
 ·rename_i ρ' ep
  unfold V0 at ep
  split at ep
  ·rename_i k z _ _
   obtain ⟨cs,ec,ep⟩:=Option.bind_eq_some_iff.mp ep
   split at ep
   ·rename_i ds e1
    obtain ⟨j,ej,rfl⟩:=Option.map_eq_some_iff.mp ep
    unfold Rep at rx
    obtain ⟨b,eb,rfl⟩:=rx
    obtain ⟨vs,hb,h0,r⟩:=JA s4 ec e1 eb
    refine ⟨b,vs,z,j,rfl,ri,hb,by rw [r.length]; exact ej,?_⟩
    refine h3 _ _ _ (Xt.refl _) (s4.Z5 (B3 ec) e1 rfl eb rfl fun A' hA=>?_)
    have ow:AH ⟨K,μ1⟩ (AI d lk ρ1) σ n b:=⟨_,B3 ec,k,_,e1,rfl,eb⟩
    exact ⟨h0,_,upd_same,(Ag.set j r ((r2.same g2).same g3)).mono (Av.keep ow) hA⟩
   ·cases ep
  ·cases ep
 ·exact False.elim h3
theorem Ag.erase{κ:KM}{A:Ad}:∀ {ds:List Dt} {vs:List V} (i:Nat),Ag κ H A ds vs→Ag κ H A (ds.eraseIdx i) (vs.eraseIdx i)
 | [],_,_,r=>by unfold Ag at r; subst r; exact Ag.nil
 | _ :: _,_,0,r=>by
  unfold Ag at r
  obtain ⟨v,q,rfl,r1,r2⟩:=r
  exact r2
 | _ :: _,_,i + 1,r=>by
  unfold Ag at r
  obtain ⟨v,q,rfl,r1,r2⟩:=r
  exact Ag.cons r1 (Ag.erase i r2)
theorem Ch.one(s:StOk ⟨K,μ⟩ H0 A0 H ρ σ){i:Nat}{l l':Lo}{b:Addr}{u:HO}(hS:i∈S)(e:ρ[i]? = some (some l))(ow:AH ⟨K,μ⟩ ρ σ i b)(hl:∀ a,Bq ⟨K,μ⟩ l' σ[i]? a→Bq ⟨K,μ⟩ l σ[i]? a):Ch K S σ μ H ρ μ (upd H b u) (ρ.set i (some l')):=by
 refine ⟨Xt.refl _,fun a o q nn=>?_,fun j hj=>List.getElem?_set_ne fun (z:i=j)=>hj (by rw [← z]; exact hS),fun j a hj h=>?_,.inl rfl⟩
 ·rw [upd_ne fun z=>by subst z; exact nn i hS ow]
  exact q
 ·obtain ⟨l2,e1,ho⟩:=h
  by_cases hij:i=j
  ·subst hij
   rw [List.getElem?_set_self (List.getElem?_eq_some_iff.mp e).1] at e1
   cases e1
   exact .inl ⟨i,hj,l,e,hl a ho⟩
  ·rw [List.getElem?_set_ne hij] at e1
   exact .inl ⟨j,hj,l2,e1,ho⟩
def Xi(i:Nat)(z:Dt)(ρ:Env):Option (Dt × Env):=match ρ[i]?,z with
 | some (some (.ol ds)),.int z=>(ixN ds.length z).bind fun j=>(ds[j]?).bind fun d=>if ds.length≤16777216 then some (d,ρ.set i (some (.ol (ds.eraseIdx j)))) else none
 | _,_=>none
def X0(i:Nat)(ρ:Env):Bool:=match ρ[i]? with
 | some (some (.ol _))=>true
 | _=>false
def MY(i:Nat)(fi:Env→XO Dt):Env→XO Dt:=fun ρ=>if X0 i ρ=true then (fi ρ).bind fun z ρ1=>match Xi i z ρ1 with
 | some (d,ρ')=>.ok d ρ'
 | none=>.bad
 else .bad
theorem UI{i:Nat}{ti:TE}{fi:Env→XO Dt}(hS:i∈S)(hi:Hl K W S ti fi lb):Hl K W S (tBM K "list" rPopAt (tVar i) (tCons ti tNil)) (MY i fi) []:=by
 intro μ H0 A0 ρ σ H Q s h
 unfold MY at h
 split at h
 case isFalse=>exact False.elim h
 rename_i ho
 unfold X0 at ho
 split at ho
 case h_2=>cases ho
 rename_i ds0 e0
 obtain ⟨b,vs0,eσ,_,hb0,_⟩:=s.lo i _ e0
 refine ⟨_,eσ,.inl ⟨rfl,vs0,SqL.of hb0⟩,?_⟩
 refine hi _ _ _ _ _ _ _ s (h.seq fun z ρ1 ei h2 μ1 v2 H2 c2 s2 r2=>?_)
 clear ei
 split at h2
 ·rename_i d ρ' ep
  unfold Xi at ep
  split at ep
  ·rename_i ds z e1
   obtain ⟨j,ej,ep⟩:=Option.bind_eq_some_iff.mp ep
   obtain ⟨d',ed,ep⟩:=Option.bind_eq_some_iff.mp ep
   obtain ⟨hl,ep⟩:=AX ep
   cases ep
   obtain ⟨b',vs,eσ',h0,hb,r⟩:=s2.lo i _ e1
   rw [eσ] at eσ'
   cases eσ'
   obtain ⟨y,ey,ry⟩:=r.get ed
   obtain ⟨q1,q2,q3,q4⟩:=ixN_seq ej
   have ow:AH ⟨K,μ1⟩ ρ1 σ i b:=⟨_,e1,eσ⟩
   have e5:v2=.int z:=r2
   subst e5
   refine ⟨b,vs,z,j,y,rfl,rfl,hb,by omega,by omega,by rw [r.length]; exact q1,ey,?_⟩
   have ch:Ch K S σ μ1 H2 ρ1 μ1 (upd H2 b (.lst (vs.eraseIdx j))) (ρ1.set i (some (.ol (ds.eraseIdx j)))):=Ch.one s2 hS e1 ow fun a z=>z
   have st:=s2.Y1 e1 eσ (Ag.erase j r)
   refine h2 μ1 y _ (c2.trans ch) st ?_
   refine Rep.mono (Av.keep ow) (fun a z=>?_) _ _ ry
   rcases z with z | ⟨m,_,l,f1,f2⟩
   ·exact .inl z
   ·by_cases hm:i=m
    ·subst hm
     rw [List.getElem?_set_self (List.getElem?_eq_some_iff.mp e1).1] at f1
     cases f1
     exact .inr ⟨i,(fun q=>nomatch q),_,e1,f2⟩
    ·rw [List.getElem?_set_ne hm] at f1
     exact .inr ⟨m,(fun q=>nomatch q),l,f1,f2⟩
  ·cases ep
 ·exact False.elim h2
def WD(n:Nat)(f:Env→XO (List Dt))(lk:List Nat):Env→XO Dt:=fun ρ=>(f ρ).bind fun ds ρ1=>match BY n ρ1 with
 | some cs=>if (lk.all (EZ ρ1) || Dt.CA ds || (Dt.Sm ds && lk.all (Hr ρ1)))=true then .ok (.ad cs.length) (ρ1.set n (some (.mh (cs ++ [.lst ds])))) else .bad
 | none=>.bad
theorem Xc{te:TE}{f:Env→XO (List Dt)}(hS:n∈S)(hn:n∉lk)(ha:Z1 K W S te f lk):Hl K W S te (WD n f lk) []:=by
 intro μ H0 A0 ρ σ H Q s h
 refine ha _ _ _ _ _ _ _ s (h.seq fun ds ρ1 _ h1 μ1 p vs H1 H2 c1 s1 hs hp hp' r=>?_)
 split at h1
 ·rename_i cs ec
  split at h1
  ·rename_i hc
   have e:=B3 ec
   obtain ⟨nd,hlen,_⟩:=s1.lo n _ e
   have rr:Ag ⟨K,μ1⟩ H2 (fun a=>Av ⟨K,μ1⟩ A0 ρ1 σ [] a∨a=p) ds vs:=by
    rw [Bool.or_eq_true,Bool.or_eq_true,Bool.and_eq_true] at hc
    rcases hc with (hc | hc) | ⟨hc,hl⟩
    ·refine r.Bv fun a z=>z.imp (fun z=>?_) id
     rcases z with z | ⟨i,ni,l,e1,ho⟩
     ·exact .inl z
     ·refine .inr ⟨i,fun q=>?_,l,e1,ho⟩
      have w:=List.all_eq_true.mp hc i q
      unfold EZ at w
      rw [e1] at w
      cases l with
      | sh d=>exact ho
      | _=>cases w
    ·refine Ag.pure (fun a z=>?_) ds vs hc r
     rcases z with z | z
     ·exact (s1.grow hs).Ez z
     ·rw [z,hp']; exact trivial
    ·refine Ag.nl (fun a z=>?_) ds vs hc r
     rcases z with (z | ⟨i,ni,l,e1,ho⟩) | z
     ·exact .inl (.inl (.inl z))
     ·by_cases hi:i∈lk
      ·have w:=List.all_eq_true.mp hl i hi
       unfold Hr at w
       rw [e1] at w
       exact .inr (((s1.grow hs).lo i l e1).RD w ho)
      ·exact .inl (.inl (.inr ⟨i,hi,l,e1,ho⟩))
     ·exact .inl (.inr z)
   have hm:Xt μ1 (μ1.push p):=⟨fun k a h=>by show (μ1.l ++ [p])[k]? = _; rw [List.getElem?_append_left (List.getElem?_eq_some_iff.mp h).1]; exact h,rfl,fun z=>by exact absurd e (s1.nm z n cs)⟩
   have st:=s1.alloc (c:=.lst ds) e hs hp fun A' hA=>⟨s1.same.free hp,vs,hp',(rr.ext hm).Bv fun a z=>hA a z⟩
   have own':∀ a,Bq ⟨K,μ1.push p⟩ (.mh (cs ++ [.lst ds])) σ[n]? a→Bq ⟨K,μ1⟩ (.mh cs) σ[n]? a∨a=p:=fun a ⟨k,c,f1,f2,f3⟩=>by
    have f3':(μ1.l ++ [p])[k]? = some a:=f3
    by_cases hk:k < cs.length
    ·rw [List.getElem?_append_left hk] at f1
     rw [List.getElem?_append_left (by rw [← hlen]; exact hk)] at f3'
     exact .inl ⟨k,c,f1,f2,f3'⟩
    ·have hk2:=(List.getElem?_eq_some_iff.mp f1).1
     rw [List.length_append,List.length_singleton] at hk2
     rw [List.getElem?_append_right (by rw [← hlen]; show cs.length≤k; omega)] at f3'
     have:k - μ1.l.length=0:=by rw [← hlen]; show k - cs.length=0; omega
     rw [this] at f3'
     cases f3'
     exact .inr rfl
   have ch:Ch K S σ μ1 H1 ρ1 (μ1.push p) H2 (ρ1.set n (some (.mh (cs ++ [.lst ds])))):=by
    refine ⟨hm,fun a o q _=>hs a o q,fun j hj=>List.getElem?_set_ne fun (z:n=j)=>hj (by rw [← z]; exact hS),fun j a hj h=>?_,.inr fun j c q=>by rw [s1.one j n _ _ q e]; exact hS⟩
    ·obtain ⟨l,e1,ho⟩:=h
     by_cases hn:n=j
     ·subst hn
      rw [List.getElem?_set_self (List.getElem?_eq_some_iff.mp e).1] at e1
      cases e1
      exact (own' a ho).imp (fun z=>⟨n,hS,_,e,z⟩) fun z=>by rw [z]; exact hp
     ·rw [List.getElem?_set_ne hn] at e1
      refine .inl ⟨j,hj,l,e1,ho.ext fun q=>?_⟩
      cases l with
      | mh c=>exact absurd (s1.one n j _ _ e e1) hn
      | _=>cases q
   refine h1 _ _ H2 (c1.trans ch) st ?_
   unfold Rep
   refine ⟨p,?_,rfl⟩
   show (μ1.l ++ [p])[cs.length]? = some p
   rw [show cs.length=μ1.l.length from hlen,List.getElem?_append_right (Nat.le_refl _),Nat.sub_self]
   rfl
  ·exact False.elim h1
 ·exact False.elim h1
end
end FD
namespace FD
open PySem L2 PyProof.Rows PySem.Spec
section
variable {K:PySem.W.Frag} {S:List Nat} {σ:L2.St} {μ μ':Mu} {H H' H0:Hp} {ρ:Env} {A0:Ad} {lk la lb:List Nat} {W:WX} {d:Dt} {v:V} {n:Nat} {α β:Type}
theorem Wa(i:Nat){tb:TE}{fb:Env→XO Dt}(hi:i∉S)(hb:Hl K W S tb fb lb):Hl K W S (tOp (rIx K) (tVar i) tb) (x2 (xP (Ab i)) fb A4) []:=by
 intro μ H0 A0 ρ σ H Q s h
 unfold x2 xP Ab at h
 split at h
 ·exact False.elim h
 ·rename_i l hn e
  simp only [Out.Pc,XO.AB] at h
  have hmh:l.N8=false:=by cases l with | mh cs=>exact (hn cs rfl).elim | _=>rfl
  obtain ⟨v,e1,r1⟩:=s.val e hmh
  refine ⟨v,e1,?_⟩
  refine hb _ _ _ _ _ _ _ s (h.seq fun b ρ2 eb h2 μ2 v2 H2 c2 s2 r2=>?_)
  clear eb
  obtain ⟨d,e3,q⟩:=h2.o
  have e2:ρ2[i]? = some (some l):=by rw [c2.env i hi]; exact e
  have lo:=s2.lo i l e2
  cases l with
  | sh d'=>
   obtain ⟨u,e4,r4⟩:=lo
   rw [e1] at e4
   cases e4
   exact NM (K:=K) μ2 H2 (Av ⟨K,μ2⟩ A0 ρ2 σ []) d' b d v v2 Q (fun c z=>s2.Hq z) r4 (RP e3 r2) e3 fun v H' hs r=>q μ2 v H' (c2.grow hs) (s2.grow hs) r
  | ol ds=>
   obtain ⟨a,vs,e4,h0,h1,r4⟩:=lo
   rw [e1] at e4
   cases e4
   cases b <;> try (cases e3; done)
   rename_i k
   have e5:v2=.int k:=r2
   subst e5
   obtain ⟨w,e6,r6⟩:=r4.at (show atI ds k=some d from e3)
   exact .inl ⟨a,vs,k,w,rfl,rfl,SqL.of h1,e6,q μ2 _ _ c2 s2 r6⟩
  | od ks ds=>cases b <;> cases e3
  | ot ks ds=>cases b <;> cases e3
  | mh cs=>cases hmh
 ·exact False.elim h
def TXI(K:PySem.W.Frag)(W:WX)(S:List Nat)(wi:TI)(f:Env→XO (List Dt))(lk:List Nat):Prop:=
 ∀ (μ:Mu) (H0:Hp) (A0:Ad) (ρ:Env) (σ:L2.St) (H:Hp) (R:It→Hp→Prop),StOk ⟨K,μ⟩ H0 A0 H ρ σ→BO K W μ H0 A0 σ (f ρ) (fun ds ρ'=>∀ μ' J H',Ch K S σ μ H ρ μ' H' ρ'→StOk ⟨K,μ'⟩ H0 A0 H' ρ' σ→Walks ⟨K,μ'⟩ (Bs ⟨K,μ'⟩ H' ρ' σ lk) A0 J ds→R J H')→wi σ H R
def PXI(X:Cx)(W:WX)(S:List Nat)(tg iter:Expr)(f:Env→XO (List Dt))(lk:List Nat):Prop:=∃ wi,PI X tg iter wi∧TXI X.K W S wi f lk
theorem Zt{wi:TI}{f:Env→Out (List Dt)}(h:XH K W wi f lk):TXI K W S wi (xP f) lk:=fun μ H0 A0 ρ σ H R s hp=>
 h _ _ _ _ _ _ _ s (BO.p s hp fun ds _ q J H1 hs w=>q μ J H1 ((Ch.refl _ _ _).grow hs) (s.grow hs) w)
end
end FD
namespace FD
open PySem L2 PyProof.Rows PySem.Spec
def RR{α:Type}:XO α→XO α
 | .ok a ρ=>.ok a ρ
 | _=>.bad
@[simp] theorem Im{α:Type}(a:α)(ρ:Env):RR (.ok a ρ)=.ok a ρ:=rfl
def YV(n:Nat)(ok:List Cell→Bool)(ρ:Env)(k:List Cell→XO (List Dt)):XO (List Dt):=match BY n ρ with
 | some cs=>if ok cs=true then k cs else .bad
 | none=>.bad
def Ot(n:Nat)(ok:List Cell→Bool)(u:Dt→Env→Option Env)(t:Env→XO Bool)(f:Env→XO Dt)(ρb:Env):List Dt→List Cell→XO (List Dt)
 | [],cs=>.ok [] (ρb.set n (some (.mh cs)))
 | d :: ds,cs=>((DY (u d (ρb.set n (some (.mh cs))))).x ρb).bind fun ρ1 _=>(RR (t ρ1)).bind fun b ρ2=>if b=true then (RR (f ρ2)).bind fun y ρ3=>YV n ok ρ3 fun cs'=>(Ot n ok u t f ρb ds cs').bind fun ys ρ=>.ok (y :: ys) ρ
  else YV n ok ρ2 fun cs'=>Ot n ok u t f ρb ds cs'
def Sl(n:Nat)(u:Dt→Env→Option Env)(vs:List Nat)(t:Env→XO Bool)(f:Env→XO Dt)(src:Env→XO (List Dt))(lk:List Nat):Env→XO (List Dt):=fun ρ=>(src ρ).bind fun ds ρ1=>match BY n ρ1 with
 | some cs=>if ds.length≤16777216∧A7 ρ1 (lk ++ vs) none cs=true then (Ot n (A7 ρ1 (lk ++ vs) none) u t f (Br (frz lk ρ1) vs) ds cs).bind fun ys ρ2=>(match BY n ρ2 with
  | some cs'=>.ok ys (ρ1.set n (some (.mh cs')))
  | none=>.bad) else .bad
 | none=>.bad
section
variable {K:PySem.W.Frag} {κ:KM} {S:List Nat} {σ:L2.St} {μ μ':Mu} {H H' H0:Hp} {ρ:Env} {A0:Ad} {lk la lb:List Nat} {W:WX} {d:Dt} {v:V} {n:Nat} {D:Addr} {u:HO}
theorem StOk.Xq(s:StOk κ H0 A0 H ρ σ)(hD:H D=none)(mu:Mut (some u)):StOk κ (upd H0 D u) (fun a=>A0 a∨a=D) (upd H D u) ρ σ:=by
 have h0:H0 D=none:=s.same.free hD
 have no:∀ i,¬ AH κ ρ σ i D:=fun i h=>by
  obtain ⟨⟨o,e⟩,_⟩:=s.BW h
  rw [hD] at e
  cases e
 refine ⟨fun a o e=>?_,fun a z=>?_,s.len,fun i l e=>CW.gen (F:=κ.K) (m:=κ.mu) (m':=κ.mu) (Xt.refl _) (fun _=>rfl) (fun a o _ q=>?_) (fun a z=>?_) (fun a ho o q=>?_) (fun a ho z=>?_) (s.lo i l e),s.ap,s.one,s.nm⟩
 ·by_cases h:a=D
  ·subst h; rw [upd_same] at e ⊢; exact e
  ·rw [upd_ne h] at e ⊢; exact s.same a o e
 ·rcases z with z | z
  ·rw [upd_ne fun h=>by subst h; have q:=s.a0 a z; rw [h0] at q; exact q]
   exact s.a0 a z
  ·rw [z,upd_same]; exact mu
 ·rw [upd_ne (ne_of_none q hD)]; exact q
 ·rcases z with (z | z) | z
  ·exact .inl (.inl z)
  ·rw [z]; exact .inr hD
  ·exact .inl (.inr z)
 ·rw [upd_ne (ne_of_none q hD)]; exact q
 ·rw [upd_ne fun h=>by subst h; exact no i ⟨l,e,ho⟩]; exact z
def delD(D:Addr)(H:Hp):Hp:=fun a=>if a=D then none else H a
theorem FO{a:Addr}(h:a≠D):delD D H a=H a:=by unfold delD; rw [if_neg h]
theorem Ol:delD D H D=none:=by unfold delD; rw [if_pos rfl]
theorem StOk.outD(s:StOk κ (upd H0 D u) (fun a=>A0 a∨a=D) H ρ σ)(h0:H0 D=none)(ha:∀ a,A0 a→Mut (H0 a)):StOk κ H0 A0 (delD D H) ρ σ:=by
 have no:∀ i a,AH κ ρ σ i a→a≠D:=fun i a h z=>by
  have q:=(s.BW h).2
  rw [z,upd_same] at q
  cases q
 refine ⟨fun a o e=>?_,ha,s.len,fun i l e=>CW.gen (F:=κ.K) (m:=κ.mu) (m':=κ.mu) (Xt.refl _) (fun _=>rfl) (fun a o n q=>?_) (fun a z=>?_) (fun a ho o q=>?_) (fun a ho z=>?_) (s.lo i l e),s.ap,s.one,s.nm⟩
 ·have ne:=ne_of_none e h0
  rw [FO ne]
  exact s.same a o (by rw [upd_ne ne]; exact e)
 ·rw [FO fun z=>by subst z; exact n (.inl (.inr rfl))]; exact q
 ·exact .inl (z.imp .inl id)
 ·rw [FO (no i a ⟨l,e,ho⟩)]; exact q
 ·rw [upd_ne (no i a ⟨l,e,ho⟩)] at z; exact z
theorem Bq.gen3{F:PySem.W.Frag}{m m':Mu}{l:Lo}{sv:Option (Option V)}{a:Addr}(h:Bq ⟨F,m⟩ l sv a)(hm:l.N8=true→m'=m):Bq ⟨F,m'⟩ l sv a:=by
 cases l with
 | mh cs=>have e:=hm rfl; subst e; exact h
 | _=>exact h
theorem StOk.Y8{u':HO}(s:StOk κ (upd H0 D u) (fun a=>A0 a∨a=D) H ρ σ)(mu:Mut (some u'):=by exact trivial):StOk κ (upd H0 D u') (fun a=>A0 a∨a=D) (upd H D u') ρ σ:=by
 have no:∀ i a,AH κ ρ σ i a→a≠D:=fun i a h z=>by
  have q:=(s.BW h).2
  rw [z,upd_same] at q
  cases q
 refine ⟨fun a o e=>?_,fun a z=>?_,s.len,fun i l e=>CW.gen (F:=κ.K) (m:=κ.mu) (m':=κ.mu) (Xt.refl _) (fun _=>rfl) (fun a o n q=>?_) (fun a z=>.inl z) (fun a ho o q=>?_) (fun a ho z=>?_) (s.lo i l e),s.ap,s.one,s.nm⟩
 ·by_cases h:a=D
  ·subst h; rw [upd_same] at e ⊢; exact e
  ·rw [upd_ne h] at e ⊢; exact s.same a o (by rw [upd_ne h]; exact e)
 ·by_cases h:a=D
  ·rw [h,upd_same]; exact mu
  ·have q:=s.a0 a z
   rw [upd_ne h] at q ⊢
   exact q
 ·rw [upd_ne fun z=>by subst z; exact n (.inl (.inr rfl))]; exact q
 ·rw [upd_ne (no i a ⟨l,e,ho⟩)]; exact q
 ·have ne:=no i a ⟨l,e,ho⟩
  rw [upd_ne ne] at z ⊢
  exact z
theorem RH{n:Nat}{x:Option Lo}:∀ {lk:List Nat} {ρ:Env},n∉lk→frz lk (ρ.set n x)=(frz lk ρ).set n x
 | [],_,_=>rfl
 | i :: lk,ρ,h=>by
  have hi:n≠i:=fun z=>h (by rw [z]; exact List.mem_cons_self)
  rw [CO,CO]
  have e:F9 (ρ.set n x) i=(F9 ρ i).set n x:=by
   unfold F9
   rw [List.getElem?_set_ne hi]
   cases ρ[i]? with
   | none=>rfl
   | some o=>
    cases o with
    | none=>rfl
    | some l=>cases l <;> exact List.set_comm _ _ hi
  rw [e]
  exact RH fun z=>h (List.mem_cons_of_mem _ z)
theorem OW{n:Nat}{x:Option Lo}{ρ:Env}:∀ {vs:List Nat},n∉vs→Br (ρ.set n x) vs=(Br ρ vs).set n x
 | [],_=>rfl
 | i :: vs,h=>by
  have hi:n≠i:=fun z=>h (by rw [z]; exact List.mem_cons_self)
  unfold Br
  rw [OW fun z=>h (List.mem_cons_of_mem _ z),List.set_comm _ _ hi]
theorem StOk.turned{cs cs':List Cell}{kk:List Nat}(s:StOk ⟨K,μ⟩ H0 A0 H ρ σ)(e:ρ[n]? = some (some (.mh cs)))(hn:n∉kk)(hl:A7 ρ kk none cs'=true)(x:Xt μ μ')(same:Same H0 H')(keep:∀ a o,H a=some o→¬ Lv ⟨K,μ⟩ cs a→H' a=some o)
  (own:∀ a,Lv ⟨K,μ'⟩ cs' a→Lv ⟨K,μ⟩ cs a∨H a=none) (ok:∀ A':Ad,(∀ a,A' a→Av ⟨K,μ⟩ A0 ρ σ (n :: kk) a∨Lv ⟨K,μ'⟩ cs' a)→CW ⟨K,μ'⟩ Zi H' A' (.mh cs') none):
  StOk ⟨K,μ'⟩ H0 A0 H' (ρ.set n (some (.mh cs'))) σ∧Ch K [n] σ μ H ρ μ' H' (ρ.set n (some (.mh cs'))):=by
 have m:MCh K (Av ⟨K,μ⟩ A0 ρ σ (n :: kk)) μ cs H μ' cs' H':=⟨x,keep,own,ok _ fun _ z=>z⟩
 obtain ⟨h1,h2,_⟩:=s.called (S:=[n]) e hn hl m
 exact ⟨h1,h2 (List.mem_singleton.mpr rfl)⟩
theorem Vm{n:Nat}{ok:List Cell→Bool}{u:Dt→Env→Option Env}{t:Env→XO Bool}{f:Env→XO Dt}{ρb ρf:Env}{d:Dt}{ds res:List Dt}{cs:List Cell}(h:Ot n ok u t f ρb (d :: ds) cs=.ok res ρf):
  ∃ ρ1 b ρ2,u d (ρb.set n (some (.mh cs)))=some ρ1∧t ρ1=.ok b ρ2∧((b=false∧∃ cs',BY n ρ2=some cs'∧ok cs'=true∧Ot n ok u t f ρb ds cs'=.ok res ρf) ∨
   (b=true∧∃ y ρ3 cs' ys,f ρ2=.ok y ρ3∧BY n ρ3=some cs'∧ok cs'=true∧Ot n ok u t f ρb ds cs'=.ok ys ρf∧res=y :: ys)):=by
 unfold Ot at h
 cases e1:u d (ρb.set n (some (.mh cs))) with
 | none=>rw [e1] at h; cases h
 | some ρ1=>
  rw [e1] at h
  simp only [Co,Out.Pc,XO.AB] at h
  cases e2:t ρ1 with
  | exc x ρ=>rw [e2] at h; cases h
  | bad=>rw [e2] at h; cases h
  | ok b ρ2=>
   rw [e2] at h
   simp only [Im,XO.AB] at h
   refine ⟨ρ1,b,ρ2,rfl,e2,?_⟩
   cases b with
   | false=>
    simp only [Bool.false_eq_true,if_false] at h
    unfold YV at h
    split at h
    ·rename_i cs' ec
     split at h
     ·exact .inl ⟨rfl,cs',ec,‹_›,h⟩
     ·cases h
    ·cases h
   | true=>
    simp only [if_true] at h
    cases e3:f ρ2 with
    | exc x ρ=>rw [e3] at h; cases h
    | bad=>rw [e3] at h; cases h
    | ok y ρ3=>
     rw [e3] at h
     simp only [Im,XO.AB] at h
     unfold YV at h
     split at h
     ·rename_i cs' ec
      split at h
      ·simp only at h
       cases e4:Ot n ok u t f ρb ds cs' with
       | exc x ρ=>rw [e4] at h; cases h
       | bad=>rw [e4] at h; cases h
       | ok ys ρ=>
        rw [e4] at h
        cases h
        exact .inr ⟨rfl,y,ρ3,cs',ys,rfl,ec,‹_›,e4,rfl⟩
      ·cases h
     ·cases h
theorem JD{n:Nat}{ok:List Cell→Bool}{u:Dt→Env→Option Env}{t:Env→XO Bool}{f:Env→XO Dt}{ρb ρf:Env}{x:Exn}:∀ {ds:List Dt} {cs:List Cell},Ot n ok u t f ρb ds cs≠.exc x ρf
 | [],_,h=>by cases h
 | d :: ds,cs,h=>by
  unfold Ot at h
  cases e1:u d (ρb.set n (some (.mh cs))) with
  | none=>rw [e1] at h; cases h
  | some ρ1=>
   rw [e1] at h
   simp only [Co,Out.Pc,XO.AB] at h
   cases e2:t ρ1 with
   | exc x ρ=>rw [e2] at h; cases h
   | bad=>rw [e2] at h; cases h
   | ok b ρ2=>
    rw [e2] at h
    simp only [Im,XO.AB] at h
    cases b with
    | false=>
     simp only [Bool.false_eq_true,if_false] at h
     unfold YV at h
     split at h
     ·split at h
      ·exact JD h
      ·cases h
     ·cases h
    | true=>
     simp only [if_true] at h
     cases e3:f ρ2 with
     | exc x ρ=>rw [e3] at h; cases h
     | bad=>rw [e3] at h; cases h
     | ok y ρ3=>
      rw [e3] at h
      simp only [Im,XO.AB] at h
      unfold YV at h
      split at h
      ·rename_i cs' ec
       split at h
       ·simp only at h
        cases e4:Ot n ok u t f ρb ds cs' with
        | exc x' ρ=>exact JD e4
        | bad=>rw [e4] at h; cases h
        | ok ys ρ=>rw [e4] at h; cases h
       ·cases h
      ·cases h
theorem X5{n:Nat}{ok:List Cell→Bool}{u:Dt→Env→Option Env}{t:Env→XO Bool}{f:Env→XO Dt}{ρb ρf:Env}{cs:List Cell}{res:List Dt}(h:Ot n ok u t f ρb [] cs=.ok res ρf):res=[]∧ρf=ρb.set n (some (.mh cs)):=by
 cases h
 exact ⟨rfl,rfl⟩
theorem XY{wi:TI}{g:TG}{tt:TT}{te:TE}{u:Dt→Env→Option Env}{T vs le:List Nat}{t:Env→XO Bool}{f:Env→XO Dt}{src:Env→XO (List Dt)}(hn:n∈S)(nlk:n∉lk)(nvs:n∉vs)(nle:n∉le)(hi:TXI K W S wi src lk)(hg:Wb K g u T)(hT:∀ i∈T,i∈vs)
  (ht:V1 K W0 [n] tt t) (he:Hl K W0 [n] te f le):Z1 K W S (tLc wi g tt te vs) (Sl n u vs t f src lk) (lk ++ (le ++ vs)):=by
 intro μ0 H0 A0 ρ0 σ Ha Q s0 h
 unfold Sl at h
 refine hi _ _ _ _ _ _ _ s0 (h.seq fun ds ρ1 _ h1 μ1 J H1 c1 s1 w=>?_)
 intro D hD
 split at h1
 case h_2=>exact False.elim h1
 rename_i cs1 ec1
 split at h1
 case isFalse=>exact False.elim h1
 rename_i hc
 obtain ⟨hz,hl1⟩:=hc
 have e1:=B3 ec1
 have hnl:n < ρ1.length:=(List.getElem?_eq_some_iff.mp e1).1
 have h0D:H0 D=none:=s1.same.free hD
 cases eo:Ot n (A7 ρ1 (lk ++ vs) none) u t f (Br (frz lk ρ1) vs) ds cs1 with
 | exc x ρ=>exact absurd eo JD
 | bad=>rw [eo] at h1; exact False.elim h1
 | ok res ρf=>
 rw [eo] at h1
 simp only [XO.AB] at h1
 have nLK:n∉lk ++ (le ++ vs):=by simp only [List.mem_append,not_or]; exact ⟨nlk,nle,nvs⟩
 have nkk:n∉lk ++ vs:=by simp only [List.mem_append,not_or]; exact ⟨nlk,nvs⟩
 -- what stands at turn i
 let Inv:Nat→Hp→Prop:=fun i H2=>∃ (μ2:Mu) (cs2:List Cell) (done todo:List Dt) (acc:List V),
  Ch K [n] σ μ1 H1 ρ1 μ2 H2 (ρ1.set n (some (.mh cs2)))∧StOk ⟨K,μ2⟩ (upd H0 D (.lst acc)) (fun a=>A0 a∨a=D) H2 (ρ1.set n (some (.mh cs2))) σ∧acc.length≤i ∧
  Ot n (A7 ρ1 (lk ++ vs) none) u t f (Br (frz lk ρ1) vs) (ds.drop i) cs2=.ok todo ρf∧done ++ todo=res∧Ag ⟨K,μ2⟩ H2 (fun a=>Av ⟨K,μ2⟩ A0 (ρ1.set n (some (.mh cs2))) σ (lk ++ (le ++ vs)) a∨a=D) done acc
 have set1:ρ1.set n (some (.mh cs1))=ρ1:=Bc e1
 refine ⟨fun i m H'=>m + i=ds.length∧Inv i H',⟨ds.length,by omega,μ1,cs1,[],res,[],?_,?_,Nat.le_refl 0,eo,rfl,Ag.nil⟩,?_⟩
 ·rw [set1]; exact (Ch.refl _ _ _).grow (Same.new hD)
 ·rw [set1]; exact s1.Xq hD trivial
 rintro i m H2 ⟨hm,μ2,cs2,done,todo,acc,c2,s2,hlen,e,hres,racc⟩
 have hacc:H2 D=some (.lst acc):=s2.same D _ upd_same
 have e2:(ρ1.set n (some (.mh cs2)))[n]? = some (some (.mh cs2)):=List.getElem?_set_self hnl
 have sBW:Same (Bs ⟨K,μ1⟩ H1 ρ1 σ lk) H2:=fun a o q=>by
  unfold Bs at q
  split at q
  ·cases q
  ·rename_i no
   exact c2.keep a o q fun j hj h=>no ⟨j,by rw [List.mem_singleton.mp hj]; exact nlk,h⟩
 by_cases hlt:i < ds.length
 ·have hd:ds.drop i=ds[i] :: ds.drop (i + 1):=List.drop_eq_getElem_cons hlt
  rw [hd] at e
  obtain ⟨ρa,b,ρc,eu,et,hb⟩:=Vm e
  refine .inr ⟨w.go i H2 sBW hlt,fun H'=>Inv (i + 1) H',fun H' q=>⟨m - 1,by omega,by omega,q⟩,fun x H3 y=>?_⟩
  obtain ⟨g3,r3⟩:=w.yld i H2 x H3 ds[i] sBW y (List.getElem?_eq_getElem hlt)
  have s3:=s2.grow g3
  have sf:=(s3.fz lk).1.T4 vs
  have avb:∀ a,Av ⟨K,μ2⟩ (fun a=>A0 a∨a=D) (Br (frz lk (ρ1.set n (some (.mh cs2)))) vs) (wipe σ vs) [] a→Av ⟨K,μ2⟩ (fun a=>A0 a∨a=D) (ρ1.set n (some (.mh cs2))) σ lk a:=fun a z=>by
   rcases z with z | ⟨j,_,z⟩
   ·exact .inl z
   ·have q:=(s3.fz lk).2 [] a (.inr ⟨j,(fun q=>nomatch q),(ZQ z).1⟩)
    rw [List.append_nil] at q
    exact q
  have blk:Br (frz lk (ρ1.set n (some (.mh cs2)))) vs=(Br (frz lk ρ1) vs).set n (some (.mh cs2)):=by rw [RH nlk,OW nvs]
  rw [blk] at sf avb
  have hacc3:=g3 _ _ hacc
  have rx:Rep ⟨K,μ2⟩ H3 (Av ⟨K,μ2⟩ (fun a=>A0 a∨a=D) ((Br (frz lk ρ1) vs).set n (some (.mh cs2))) (wipe σ vs) []) ds[i] x:=Rep.ext c2.xt <| r3 _ fun a z=>by
   have z':=avb a z
   refine ⟨?_,s2.Hq z'⟩
   rcases z' with (z' | z') | ⟨j,nj,z'⟩
   ·exact .inl z'
   ·refine .inr ?_
    rw [z']
    unfold Bs
    split
    ·rfl
    ·exact hD
   ·refine .inr ?_
    by_cases hj:j=n
    ·subst hj
     rcases c2.own j a (List.mem_singleton.mpr rfl) z' with ⟨k,hk,q⟩ | q
     ·exact Q9 ⟨k,by rw [List.mem_singleton.mp hk]; exact nj,q⟩
     ·unfold Bs
      split
      ·rfl
      ·exact q
    ·exact Q9 ⟨j,nj,c2.back (fun q=>hj (List.mem_singleton.mp q)) z'⟩
  refine hg _ _ _ _ _ _ _ _ _ _ sf rx eu fun σ4 s4 m4 o4=>⟨?_,?_⟩
  ·have wl:∀ vs':List Nat,(∀ i∈T,i∈vs')→wipe σ4 vs'=wipe (wipe σ vs) vs':=fun vs' hv=>by
    apply List.ext_getElem?
    intro j
    by_cases hj:j∈vs'
    ·have n1:∀ τ:L2.St,j < τ.length→(wipe τ vs')[j]? = some none:=fun τ hjl=>Ga.wipe_mem hj hjl
     by_cases hl:j < σ4.length
     ·rw [n1 _ hl,n1 _ (by rw [← o4.1]; exact hl)]
     ·rw [List.getElem?_eq_none (by rw [wipe_length]; omega),List.getElem?_eq_none (by rw [wipe_length,← o4.1]; omega)]
    ·rw [DI hj,DI hj]
     exact (o4.2 j fun z=>hj (hv j z)).1
   rw [wl vs hT,Ga.wipe_idem]
  ·-- from the block back to the locals
   have blkn:∀ {ρ:Env} {μ3:Mu} {H5:Hp},Ch K [n] σ4 μ2 H3 ρa μ3 H5 ρ→∀ j l,j≠n→j∉lk→j∉vs→(ρ1.set n (some (.mh cs2)))[j]? = some (some l)→ρ[j]? = some (some l)∧σ4[j]? = σ[j]?:=fun {ρ μ3 H5} c j l nj nl nv q=>by
    have nT:j∉T:=fun q=>nv (hT j q)
    refine ⟨?_,by rw [(o4.2 j nT).1,DI nv]⟩
    rw [c.env j fun q=>nj (List.mem_singleton.mp q),(o4.2 j nT).2,List.getElem?_set_ne (fun z=>nj z.symm),K6 nv]
    rw [List.getElem?_set_ne (fun z=>nj z.symm)] at q
    exact Ga.frz_ne nl q
   have na:ρa[n]? = some (some (.mh cs2)):=by
    have nT:n∉T:=fun q=>nvs (hT n q)
    rw [(o4.2 n nT).2,List.getElem?_set_self (by rw [Ft,Lp]; exact hnl)]
   -- the next turn's state,without a new item
   have next:∀ {μ3:Mu} {H5:Hp} {ρ3:Env} {cs3:List Cell},Ch K [n] σ4 μ2 H3 ρa μ3 H5 ρ3→StOk ⟨K,μ3⟩ (upd H0 D (.lst acc)) (fun a=>A0 a∨a=D) H5 ρ3 σ4→BY n ρ3=some cs3→A7 ρ1 (lk ++ vs) none cs3=true →
     StOk ⟨K,μ3⟩ (upd H0 D (.lst acc)) (fun a=>A0 a∨a=D) H5 (ρ1.set n (some (.mh cs3))) σ∧Ch K [n] σ μ2 H2 (ρ1.set n (some (.mh cs2))) μ3 H5 (ρ1.set n (some (.mh cs3))):=fun {μ3 H5 ρ3 cs3} c s5 ec hl=>by
    have e3:=B3 ec
    have lo:=s5.lo n _ e3
    have lk':A7 (ρ1.set n (some (.mh cs2))) (lk ++ vs) none cs3=true:=by
     have al:∀ (F:Env→Nat→Bool),(∀ ρ j x,j≠n→F (List.set ρ n x) j=F ρ j)→∀ l:List Nat,n∉l→l.all (F (ρ1.set n (some (.mh cs2))))=l.all (F ρ1):=fun F hF l=>by
      induction l with
      | nil=>intro _; rfl
      | cons j l ih=>
       intro hj
       rw [List.all_cons,List.all_cons,hF ρ1 j _ fun z=>hj (by rw [z]; exact List.mem_cons_self),ih fun z=>hj (List.mem_cons_of_mem _ z)]
     unfold A7 at hl ⊢
     rw [al EZ (fun ρ j x hj=>by unfold EZ; rw [List.getElem?_set_ne fun z=>hj z.symm]) _ nkk,al Hr (fun ρ j x hj=>by unfold Hr; rw [List.getElem?_set_ne fun z=>hj z.symm]) _ nkk]
     exact hl
    have q:=StOk.turned (μ':=μ3) (H':=H5) (cs':=cs3) (kk:=lk ++ vs) s3 e2 nkk lk' c.xt s5.same (fun a o q nl=>c.keep a o q fun j hj h=>nl (by
      rw [List.mem_singleton.mp hj] at h
      obtain ⟨l,e4,ho⟩:=h
      rw [na] at e4
      cases e4
      exact ho)) (fun a z=>(c.own n a (List.mem_singleton.mpr rfl) ⟨_,e3,z⟩).imp (fun ⟨j,hj,h⟩=>by
      rw [List.mem_singleton.mp hj] at h
      obtain ⟨l,e4,ho⟩:=h
      rw [na] at e4
      cases e4
      exact ho) id) fun A' hA=>lo.VP (fun _ _ _=>rfl) fun a z=>?_
    ·rw [List.set_set] at q
     exact ⟨q.1,((Ch.refl _ _ _).grow g3).trans q.2⟩
    ·refine .inl ?_
     rcases hA a z with (z | ⟨j,nj,l,e4,ho⟩) | z
     ·exact .inl z
     ·simp only [List.mem_cons,List.mem_append,not_or] at nj
      obtain ⟨f1,f2⟩:=blkn c j l nj.1 nj.2.1 nj.2.2 e4
      refine .inr ⟨j,(fun q=>nomatch q),l,f1,?_⟩
      rw [f2]
      refine Bq.gen3 ho fun q=>?_
      cases l with
      | mh c=>exact absurd (s3.one n j _ _ e2 e4).symm nj.1
      | _=>cases q
     ·exact .inr ⟨n,(fun q=>nomatch q),_,e3,z⟩
   refine ht _ _ _ _ _ _ _ s4 ?_
   rw [et]
   intro μ3 H4 c3 s5
   rcases hb with ⟨rfl,cs3,ec3,ok3,e3⟩ | ⟨rfl,y5,ρd,cs3,ys,ef,ec3,ok3,e3,rfl⟩
   ·simp only [Bool.false_eq_true,if_false]
    obtain ⟨st,ch⟩:=next c3 s5 ec3 ok3
    refine ⟨μ3,cs3,done,todo,acc,c2.trans ch,st,by omega,e3,hres,?_⟩
    exact Ag.KU ch.xt (fun a o nn q=>ch.keep a o q fun j hj h=>nn (.inl (.inr ⟨j,by rw [List.mem_singleton.mp hj]; exact nLK,h⟩))) (fun a z=>z.elim (fun z=>(ch.av (fun j hj=>by rw [List.mem_singleton.mp hj]; exact nLK) z).imp .inl id) fun z=>.inl (.inr z)) racc
   ·simp only [if_true]
    refine he _ _ _ _ _ _ _ s5 ?_
    rw [ef]
    intro μ5 v5 H5 c5 s6 r5
    have c35:=c3.trans c5
    obtain ⟨st,ch⟩:=next c35 s6 ec3 ok3
    have hD5:H5 D=some (.lst acc):=s6.same D _ upd_same
    have racc5:=Ag.KU (A':=fun a=>Av ⟨K,μ5⟩ A0 (ρ1.set n (some (.mh cs3))) σ (lk ++ (le ++ vs)) a∨a=D) ch.xt (fun a o nn q=>ch.keep a o q fun j hj h=>nn (.inl (.inr ⟨j,by rw [List.mem_singleton.mp hj]; exact nLK,h⟩))) (fun a z=>z.elim (fun z=>(ch.av (fun j hj=>by rw [List.mem_singleton.mp hj]; exact nLK) z).imp .inl id) fun z=>.inl (.inr z)) racc
    refine ⟨acc,hD5,by rw [sizeLine_eq]; omega,μ5,cs3,done ++ [y5],ys,acc ++ [v5],?_,?_,by rw [List.length_append,List.length_singleton]; omega,e3,by rw [List.append_assoc]; exact hres,?_⟩
    ·refine ⟨(c2.trans ch).xt,fun a o q nn=>?_,(c2.trans ch).env,(c2.trans ch).own,(c2.trans ch).mh⟩
     rw [upd_ne (ne_of_none q hD)]
     exact (c2.trans ch).keep a o q nn
    ·exact StOk.Y8 st
    ·have keep:∀ a o,¬ (Av ⟨K,μ5⟩ A0 (ρ1.set n (some (.mh cs3))) σ (lk ++ (le ++ vs)) a∨a=D)→H5 a=some o→upd H5 D (.lst (acc ++ [v5])) a=some o:=fun a o nn q=>by
      rw [upd_ne fun z=>nn (.inr z)]
      exact q
     refine Ag.mono keep (fun a z=>z) _ _ (Ag.append racc5 (Ag.cons (r5.Bv fun a z=>?_) Ag.nil))
     rcases z with (z | ⟨j,nj,l,e4,ho⟩) | z
     ·exact .inl (.inl z)
     ·by_cases hj:j=n
      ·subst hj
       rw [List.getElem?_set_self hnl] at e4
       cases e4
       exact .inr ⟨j,nle,_,B3 ec3,ho⟩
      ·rw [List.getElem?_set_ne fun z=>hj z.symm] at e4
       simp only [List.mem_append,not_or] at nj
       obtain ⟨f1,f2⟩:=blkn c35 j l hj nj.1 nj.2.2 (by rw [List.getElem?_set_ne fun z=>hj z.symm]; exact e4)
       exact .inr ⟨j,nj.2.1,l,f1,by rw [f2]; exact ho⟩
     ·exact .inl (.inr z)
 ·have ei:i=ds.length:=by omega
  subst ei
  rw [List.drop_length] at e
  obtain ⟨rfl,rfl⟩:=X5 e
  rw [List.append_nil] at hres
  subst hres
  refine .inl ⟨w.stop H2 sBW,?_⟩
  have em:BY n ((Br (frz lk ρ1) vs).set n (some (.mh cs2)))=some cs2:=by
   unfold BY
   rw [List.getElem?_set_self (by rw [Ft,Lp]; exact hnl)]
  rw [em] at h1
  have so:=s2.outD h0D s1.a0
  refine h1 μ2 D acc (delD D H2) H2 ?_ so (fun a o q=>?_) Ol hacc racc
  ·refine c1.trans ⟨c2.xt,fun a o q nn=>?_,fun j hj=>List.getElem?_set_ne fun (z:n=j)=>hj (by rw [← z]; exact hn),fun j a hj h=>?_,.inr fun j c q=>by rw [s1.one j n _ _ q e1]; exact hn⟩
   ·rw [FO (ne_of_none q hD)]
    exact c2.keep a o q fun j hj=>by rw [List.mem_singleton.mp hj]; exact nn n hn
   ·by_cases hjn:j=n
    ·subst hjn
     exact (c2.own j a (List.mem_singleton.mpr rfl) h).imp (fun ⟨k,hk,q⟩=>⟨j,hj,by rw [List.mem_singleton.mp hk] at q; exact q⟩) id
    ·exact .inl ⟨j,hj,c2.back (fun q=>hjn (List.mem_singleton.mp q)) h⟩
  ·by_cases ha:a=D
   ·rw [ha,Ol] at q; cases q
   ·rw [FO ha] at q; exact q
end
end FD
namespace FD
open PySem L2 PyProof.Rows PySem.Spec
section
variable {X:Cx} {W:WX} {S:List Nat} {e a b c iter tg:Expr} {f fa fb fc:Env→XO Dt} {fs:Env→XO (List Dt)} {ft fu:Env→XO Bool} {lk la lb lc:List Nat} {p pos:Pos} {st:Stmt} {rest body els:List Stmt} {g h:Env→SOut} {u:Dt→Env→Option Env} {es:List Expr} {n:Nat}
theorem D1{f:Env→Out Dt}(h:Bp X W e f lk):F3 X W S e (xP f) lk:=by
 obtain ⟨t,p,d⟩:=h
 exact ⟨_,p,ae d⟩
theorem AU{f:Env→Out (List Dt)}(h:JR X W es f lk):Y0 X W S es (xP f) lk:=by
 obtain ⟨t,p,d⟩:=h
 exact ⟨_,p,ZA d⟩
theorem Z8{f:Env→Out (List Dt)}(h:Zg X W tg iter f lk):PXI X W S tg iter (xP f) lk:=by
 obtain ⟨t,p,d⟩:=h
 exact ⟨_,p,Zt d⟩
theorem Hs(ha:F3 X W S a fa la)(hb:F3 X W S b fb lb)(hd:∀ i,i∈S→i∉la:=by decide):F3 X W S (.BinOp a .Add b pos) (x2 fa fb AJ) (la ++ lb):=by
 obtain ⟨ta,pa,da⟩:=ha
 obtain ⟨tb,pb,db⟩:=hb
 exact ⟨_,pe_op Rz pa pb,Xv (MI.or N2 (MI.or Q6 (MI.or RX Q7))) da db hd⟩
theorem Ud(ha:F3 X W S a fa la)(hb:F3 X W S b fb lb)(hd:∀ i,i∈S→i∉la:=by decide):F3 X W S (.BinOp a .Sub b pos) (x2 fa fb (Je (· - ·))) []:=by
 obtain ⟨ta,pa,da⟩:=ha
 obtain ⟨tb,pb,db⟩:=hb
 exact ⟨_,pe_op op_sub pa pb,Vy N2 PV da db hd⟩
theorem YQ(ha:F3 X W S a fa la)(hb:F3 X W S b fb lb)(hd:∀ i,i∈S→i∉la:=by decide):F3 X W S (.BinOp a .Mult b pos) (x2 fa fb (gI Td (· * ·))) []:=by
 obtain ⟨ta,pa,da⟩:=ha
 obtain ⟨tb,pb,db⟩:=hb
 exact ⟨_,pe_op op_mulW pa pb,Vy (Pb fun i j h=>(show i.natAbs.log2 + j.natAbs.log2 < 1000000 from of_decide_eq_true h)) Ja da db hd⟩
theorem px_c{op:CmpOp}{g:Dt→Dt→Option Bool}(h:Cmp X op g)(ha:F3 X W S a fa la)(hb:F3 X W S b fb lb)(hd:∀ i,i∈S→i∉la:=by decide)(hm:behindInMarks op b=false:=by first | exact nomark _ | rfl):F3 X W S (.Compare a [op] [b] pos) (xT (QH fa fb g)) []:=by
 obtain ⟨r,h1,h2⟩:=h.ex
 obtain ⟨ta,pa,da⟩:=ha
 obtain ⟨tb,pb,db⟩:=hb
 exact ⟨_,pe_cmpR h1 pa pb hm,VU h2 da db hd⟩
theorem Ro{op:CmpOp}{g:Dt→Dt→Option Bool}(h:Cmp X op g)(ha:F3 X W S a fa la)(hb:F3 X W S b fb lb)(hd:∀ i,i∈S→i∉la:=by decide)(hm:behindInMarks op b=false:=by first | exact nomark _ | rfl):Zv X W S (.Compare a [op] [b] pos) (QH fa fb g):=by
 obtain ⟨r,h1,h2⟩:=h.ex
 obtain ⟨ta,pa,da⟩:=ha
 obtain ⟨tb,pb,db⟩:=hb
 exact ⟨_,pt_cmpR h1 pa pb hm,ZU h2 da db hd⟩
theorem VE(ha:Zv X W S a ft):Zv X W S (.UnaryOp .Not a pos) (O3 ft):=by
 obtain ⟨ta,pa,da⟩:=ha
 exact ⟨_,pt_not pa,W4 da⟩
theorem Z9{K:PySem.W.Frag}{ta:TE}(ha:Hl K W S ta fa la):V1 K W S (fun σ H Q=>ta σ H fun x H1=>∃ k,TruV K x H1 k∧Q k H1) (Zq fa BN):=by
 intro μ H0 A0 ρ σ H Q s h
 refine ha _ _ _ _ _ _ _ s (h.seq fun a ρ1 _ h1 μ1 v1 H1 c1 s1 r1=>?_)
 obtain ⟨k,e,q⟩:=h1.o
 exact ⟨k,RS r1 e,q μ1 H1 c1 s1⟩
theorem Zm(ha:F3 X W S a fa la)(he:∀ whole,isTrue a X.env whole=(do let v ← whole; standAt a.pos; holding [v] (truthy v)):=by intro _; rfl):Zv X W S a (Zq fa BN):=by
 obtain ⟨ta,pa,da⟩:=ha
 exact ⟨_,pt_truth pa he,Z9 da⟩
theorem E6(ha:F3 X W S e fa la)(hr:Y0 X W S es fs lb)(hd:∀ i,i∈S→i∉la:=by decide)(hs:starEach (e :: es) X.env=(false,eval e X.env) :: starEach es X.env:=by rfl):Y0 X W S (e :: es) (Cy fa fs) (la ++ lb):=by
 obtain ⟨ta,pa,da⟩:=ha
 obtain ⟨tr,pr,dr⟩:=hr
 exact ⟨_,pa_cons pa pr hs,T9 da dr hd⟩
theorem Ws(h:Y0 X W S es fs lk):PXL X W S (.List es pos) (VT fs) lk:=by
 obtain ⟨ta,pa,da⟩:=h
 exact ⟨_,pe_lst pa,VL da⟩
theorem YB(h:PXL X W S e fs lk)(hS:n∈S:=by decide)(hn:n∉lk:=by decide):F3 X W S e (WD n fs lk) []:=by
 obtain ⟨ta,pa,da⟩:=h
 exact ⟨_,pa,Xc hS hn da⟩
theorem O8(ha:F3 X W S a fa la)(hb:F3 X W S b fb lb)(hd:∀ i,i∈S→i∉la:=by decide)(hs:PlainIx b:=by exact fun _ _=>rfl):F3 X W S (.Subscript a b pos) (x2 fa fb A4) (la ++ lb):=by
 obtain ⟨ta,pa,da⟩:=ha
 obtain ⟨tb,pb,db⟩:=hb
 exact ⟨_,pe_ix ix_seq pa pb hs,Xv NM da db hd⟩
theorem ND(i:Nat){x:Str}(hb:F3 X W S b fb lb)(hi:i∉S:=by decide)(hN:X.N[i]? = some x:=by rfl)(hv:Vis X.env.scope x:=by first | exact Or.inl rfl | exact Or.inr (Or.inl rfl) | exact Or.inr (Or.inr rfl))(hd:(x == ("__debug__" : Str))=false:=by decide)
  (hcd:(x == ("__classdict__" : Str))=false:=by decide) (hs:PlainIx b:=by exact fun _ _=>rfl):F3 X W S (.Subscript (.Name x p) b pos) (x2 (xP (Ab i)) fb A4) []:=by
 obtain ⟨tb,pb,db⟩:=hb
 exact ⟨_,pe_ix ix_seq (pe_var hN hv hd hcd) pb hs,Wa i hi db⟩
theorem Ef(n i:Nat){x:Str}{fb:Env→Out Dt}(hb:Bp X W b fb lb)(hN:X.N[i]? = some x:=by rfl)(hv:Vis X.env.scope x:=by first | exact Or.inl rfl | exact Or.inr (Or.inl rfl) | exact Or.inr (Or.inr rfl))(hd:(x == ("__debug__" : Str))=false:=by decide)
  (hcd:(x == ("__classdict__" : Str))=false:=by decide) (hs:PlainIx b:=by exact fun _ _=>rfl):Bp X W (.Subscript (.Name x p) b pos) (e2 (Fj n (Ab i)) fb A4) []:=by
 obtain ⟨tb,pb,db⟩:=hb
 exact ⟨_,pe_ix ix_seq (pe_var hN hv hd hcd) pb hs,Vs i db⟩
theorem As{x:Str}{k j:Nat}{φ:List Dt→List Cell→MO}(c:ClM X.prog X.w X.K X.mg X.base x k φ)(tk:L2N.Takes X W)(hr:Room j X.A)(hk:k≤j)(hg:Gl X x)(ha:Y0 X W S (e :: es) fs lk)(hS:n∈S:=by decide)(hn:n∉lk:=by decide)(hdb:(x == ("__debug__" : Str))=false:=by decide)
  (he:starEach (e :: es) X.env=(false,eval e X.env) :: starEach es X.env:=by rfl) (hpl:(backTo pos (starEach es X.env)).any (·.1)=false:=by rfl):F3 X W S (.Call (.Name x p) (e :: es) [] pos) (Am n φ fs lk) []:=by
 obtain ⟨f,F,hm,kp⟩:=c.ex
 obtain ⟨ta,pa,da⟩:=ha
 refine ⟨_,⟨fun pins s σ H Q I h=>?_⟩,S8 hS hn da⟩
 refine wpAny_Call_Name_kw (ld_glob I hg hm ?_ hdb)
 refine PySem.W.callWith_K (h₀:=X.base) I.ok.mod.kin kp (thn (pa.run pos pins s σ H _ I h) fun us s1 ⟨vs,H1,I1,r,q⟩=>⟨I1.kIn,?_⟩) he hpl
 exact OV F (hr.mono hk) (L2N.passAt tk σ) I1 r q
theorem WM(i:Nat){x:Str}{p1 p2 p3:Pos}(h:F3 X W S e f lk)(hS:i∈S:=by decide)(hN:X.N[i]? = some x:=by rfl)(hv:Vis X.env.scope x:=by first | exact Or.inl rfl | exact Or.inr (Or.inl rfl) | exact Or.inr (Or.inr rfl))(hd:(x == ("__debug__" : Str))=false:=by decide)
  (hcd:(x == ("__classdict__" : Str))=false:=by decide) (hs:starEach [e] X.env=(false,eval e X.env) :: starEach [] X.env:=by rfl) (hbase:attributeBase (.Name x p1) "pop" X.env (eval (.Name x p1) X.env)=eval (.Name x p1) X.env:=by rfl)
  (hfew:((backTo p3 (starEach [e] X.env)).all (fun x=>!x.1) && (backToKw p3 (keywordEach [] X.env)).all (fun x=>x.1.isSome)
   && decide (([e]:List Expr).length + ([]:List Keyword).length + (if ([]:List Keyword).isEmpty then 0 else 1) < 30))=true:=by rfl) (hline:(p2.endLine == p3.line)=true:=by rfl):F3 X W S (.Call (.Attribute (.Name x p1) "pop" p2) [e] [] p3) (MY i f) []:=by
 obtain ⟨t,p,d⟩:=h
 exact ⟨_,pe_bm PySem.F.plainAttrs_list PySem.F.slot_list_pop PySem.F.type_list_pop mt_popAt (pe_var hN hv hd hcd) (pa_cons p pa_nil hs) hbase hfew hline hs rfl,UI hS d⟩
theorem Oj(h:F3 X W S e f lk):Kd X W (.Return (some e) pos) (LQ f lk):=by
 obtain ⟨t,p,d⟩:=h
 exact ⟨_,ps_ret p,Vl d⟩
theorem Po(hc:Zv X W S c ft)(ha:F0 X W body g)(hb:F0 X W els h):Kd X W (.If c body els pos) (Kf ft g h):=by
 obtain ⟨t,p,d⟩:=hc
 obtain ⟨t1,p1,d1⟩:=ha
 obtain ⟨t2,p2,d2⟩:=hb
 exact ⟨_,ps_if p p1 p2,VW d d1 d2⟩
theorem WZ(h:F3 X W S e f lk)(hs:swapsWith e none pos.line X.env=pure false:=by rfl):Kd X W (.Expr e pos) (N3 f):=by
 obtain ⟨t,p,d⟩:=h
 exact ⟨_,ps_expr p hs,SA d⟩
theorem BB(i:Nat){x:Str}{pos':Pos}(hN:X.N.Nodup)(h:F3 X W S e f lk)(hi:X.N[i]? = some x:=by rfl)(hx:Loc X.env.scope x:=by first | exact Or.inl rfl | exact Or.inr rfl)(hs:swapsWith e (some (.Name x pos')) pos.line X.env=pure false:=by rfl)
  (hf:X.fn x=true∨X.env.scope.names.lookup x=some .local:=by first | exact .inl rfl | exact .inr rfl | assumption):Kd X W (.Assign [.Name x pos'] e pos) (Az i f lk):=by
 obtain ⟨t,p,d⟩:=h
 exact ⟨_,ps_set hN hi hx p hs hf,Vt d⟩
theorem Pq(n:Nat){o:Expr}{p2:Pos}{fo fa:Env→Out Dt}(h:F3 X W S e f lk)(ho:Bp X W o fo lb)(hi:Bp X W a fa la) (ha:∀ v,assign (.Subscript o a p2) X.env v=(do
   let ov ← holding [v] (eval o X.env)
   let iv ← holding [v,ov] (eval a X.env)
   standAt p2
   holding [v,ov,iv] (setItem ov iv v)
   release [v,ov,iv] []):=by intro _; rfl) (hs:swapsWithSole [.Subscript o a p2] e pos.line X.env=pure false:=by rfl) (hw:swappedStores [.Subscript o a p2] e X.env=pure none:=by rfl)
  (h1:(assignEach [.Subscript o a p2] X.env).map (·.2)=[assign (.Subscript o a p2) X.env]:=by rfl):Kd X W (.Assign [.Subscript o a p2] e pos) (G5 n fo fa f lk):=by
 obtain ⟨t,p,d⟩:=h
 obtain ⟨t',p',d'⟩:=hi
 obtain ⟨t2,q2,d2⟩:=ho
 exact ⟨_,ps_asg p (pg_sub q2 p' set_list ha) hs hw h1,QJ d d2 d'⟩
end
def cX(K:PySem.W.Frag)(W:WX)(S:List Nat)(f:Env→XO Dt)(lk:List Nat):TE:=fun σ H Q=>∃ (μ:Mu) (H0:Hp) (A0:Ad) (ρ:Env),StOk ⟨K,μ⟩ H0 A0 H ρ σ∧BO K W μ H0 A0 σ (f ρ) (RM K S lk μ H0 A0 ρ σ H Q)
def cXT(K:PySem.W.Frag)(W:WX)(S:List Nat)(f:Env→XO Bool):TT:=fun σ H Q=>∃ (μ:Mu) (H0:Hp) (A0:Ad) (ρ:Env),StOk ⟨K,μ⟩ H0 A0 H ρ σ∧BO K W μ H0 A0 σ (f ρ) (RMt K S μ H0 A0 ρ σ H Q)
def Xn(X:Cx)(W:WX)(S:List Nat)(es:List Expr)(f:Env→XO Bool):Prop:=∃ tt,PTs X es tt∧V1 X.K W S tt f
section
variable {X:Cx} {W:WX} {S:List Nat} {e:Expr} {es:List Expr} {f:Env→XO Dt} {t:Env→XO Bool} {u:Dt→Env→Option Env} {T lk lt le:List Nat} {n:Nat}
theorem F3.Kl(h:F3 X W S e f lk):PE X e (cX X.K W S f lk):=by
 obtain ⟨te,pe,de⟩:=h
 exact ⟨fun pins s σ H Q I ⟨μ,H0,A0,ρ,so,po⟩=>pe.run pins s σ H Q I (de μ H0 A0 ρ σ H Q so po)⟩
theorem Xn.Kl(h:Xn X W S es t):PTs X es (cXT X.K W S t):=by
 obtain ⟨te,pe,de⟩:=h
 exact ⟨fun pins s σ H Q I ⟨μ,H0,A0,ρ,so,po⟩=>pe.run pins s σ H Q I (de μ H0 A0 ρ σ H Q so po)⟩
theorem Wt:Xn X W S [] (xP AD):=by
 obtain ⟨tt,p,d⟩:=(Ct:PF X W [] AD [])
 exact ⟨tt,p,ZW d⟩
theorem Vf{elt tg iter:Expr}{ifs:List Expr}{scope:Scope}{pos py spos:Pos}{src:Env→XO (List Dt)}{y:Str}(i:Nat)(own:List (Str × Nat))(hc:X.calm=true)(hN:X.N.Nodup)(hi:PXI X W S tg iter src lk)
  (hg:∀ (s:Shared) (H:Hp) (C:Addr) (cl:List (Str × Addr)) (fp:List Addr),TF (X.blk s H scope (compEnvC scope cl C X.env) fp) tg u T)
  (ht:∀ (s:Shared) (H:Hp) (C:Addr) (cl:List (Str × Addr)) (fp:List Addr),Xn (X.blk s H scope (compEnvC scope cl C X.env) fp) W0 [n] ifs t)
  (he:∀ (s:Shared) (H:Hp) (C:Addr) (cl:List (Str × Addr)) (fp:List Addr),F3 (X.blk s H scope (compEnvC scope cl C X.env) fp) W0 [n] elt f le)
  (hy:X.N[i]? = some y:=by rfl) (hyl:X.env.scope.names.lookup y=some .local:=by rfl) (hsw:swapsWith (.ListComp elt [⟨tg,iter,ifs,0⟩] scope pos) (some (.Name y py)) spos.line X.env=pure true:=by exact sw_true rfl rfl rfl rfl)
  (ok:BlkOk X.N X.env.scope scope own:=by exact blkOk_by (by decide +kernel)) (hn:n∈S:=by decide) (n1:n∉lk:=by decide) (n2:n∉own.map (·.2):=by decide) (n3:n∉le:=by decide) (hT:∀ i∈T,i∈own.map (·.2):=by decide) (hs:∀ x,foldedSetIterable iter X.env x=pure x:=by intro _; rfl):
  Kd X W (.Assign [.Name y py] (.ListComp elt [⟨tg,iter,ifs,0⟩] scope pos) spos) (NV i (Sl n u (own.map (·.2)) t f src lk) (lk ++ (le ++ own.map (·.2)))):=by
 obtain ⟨wi,pi,di⟩:=hi
 refine ⟨_,ps_setLc (g:=cG X.K u T) (tt:=cXT X.K W0 [n] t) (te:=cX X.K W0 [n] f le) hc hN hy hyl hsw pi ok (fun s H C cl fp=>(hg s H C cl fp).Kl) (fun s H C cl fp=>(ht s H C cl fp).Kl) (fun s H C cl fp=>(he s H C cl fp).Kl) hs,?_⟩
 exact SN (XY hn n1 n2 n3 di (fun μ H0 A0 ρ ρ' σ H d v Q s r e q=>⟨μ,H0,A0,ρ,ρ',d,s,r,e,q⟩) hT (fun μ H0 A0 ρ σ H Q s h=>⟨μ,H0,A0,ρ,s,h⟩) (fun μ H0 A0 ρ σ H Q s h=>⟨μ,H0,A0,ρ,s,h⟩))
end
end FD
namespace FD
open PySem L2 PyProof.Rows PySem.Spec
mutual
def Dt.na:Dt→Bool
 | .ad _=>false
 | .tup ds=>Dt.F5 ds
 | .ptp ds=>Dt.F5 ds
 | .ntp ds=>Dt.F5 ds
 | .lst ds=>Dt.F5 ds
 | .fls ds=>Dt.F5 ds
 | .dic _ ds=>Dt.F5 ds
 | .dit _ ds=>Dt.F5 ds
 | .obj _ _ ds=>Dt.F5 ds
 | .exn _ _ _ _ ds=>Dt.F5 ds
 | _=>true
def Dt.F5:List Dt→Bool
 | []=>true
 | d :: ds=>d.na && Dt.F5 ds
end
section
variable {F:PySem.W.Frag} {m m':Mu} {H:Hp} {A:Ad}
mutual
theorem Rep.RF:∀ (d:Dt) (v:V),d.na=true→Rep ⟨F,m⟩ H A d v→Rep ⟨F,m'⟩ H A d v
 | .non,_,_,h=>h
 | .bl _,_,_,h=>h
 | .int _,_,_,h=>h
 | .str _,_,_,h=>h
 | .ty _,_,_,h=>h
 | .cls _,_,_,h=>h
 | .ad _,_,p,_=>by simp [Dt.na] at p
 | .tup ds,_,p,h=>by
  unfold Rep at h ⊢
  obtain ⟨a,vs,e,h1,h2⟩:=h
  exact ⟨a,vs,e,h1,Ag.RF ds vs (by unfold Dt.na at p; exact p) h2⟩
 | .ptp ds,_,p,h=>by
  unfold Rep at h ⊢
  obtain ⟨a,vs,e,h1,h2⟩:=h
  exact ⟨a,vs,e,h1,Ag.RF ds vs (by unfold Dt.na at p; exact p) h2⟩
 | .ntp ds,_,p,h=>by
  unfold Rep at h ⊢
  obtain ⟨a,vs,e,h1,h2⟩:=h
  exact ⟨a,vs,e,h1,Ag.RF ds vs (by unfold Dt.na at p; exact p) h2⟩
 | .lst ds,_,p,h=>by
  unfold Rep at h ⊢
  obtain ⟨a,vs,e,x,y,h2⟩:=h
  exact ⟨a,vs,e,x,y,Ag.RF ds vs (by unfold Dt.na at p; exact p) h2⟩
 | .fls ds,_,p,h=>by
  unfold Rep at h ⊢
  obtain ⟨a,vs,e,h1,h2⟩:=h
  exact ⟨a,vs,e,h1,Ag.RF ds vs (by unfold Dt.na at p; exact p) h2⟩
 | .dic ks ds,_,p,h=>by
  unfold Rep at h ⊢
  obtain ⟨a,kvs,e,x,y,h1,h2⟩:=h
  exact ⟨a,kvs,e,x,y,h1,Ag.RF ds _ (by unfold Dt.na at p; exact p) h2⟩
 | .dit ks ds,_,p,h=>by
  unfold Rep at h ⊢
  obtain ⟨a,kvs,e,x,y,h1,h2⟩:=h
  exact ⟨a,kvs,e,x,y,h1,Ag.RF ds _ (by unfold Dt.na at p; exact p) h2⟩
 | .exn a od C ns ds,_,p,h=>by
  unfold Rep at h ⊢
  obtain ⟨fs,e,h1,h2,h3⟩:=h
  exact ⟨fs,e,h1,h2,Ag.RF ds _ (by unfold Dt.na at p; exact p) h3⟩
 | .obj C ns ds,_,p,h=>by
  unfold Rep at h ⊢
  obtain ⟨a,dx,fs,e,x,y,h1,h2⟩:=h
  exact ⟨a,dx,fs,e,x,y,h1,Ag.RF ds _ (by unfold Dt.na at p; exact p) h2⟩
theorem Ag.RF:∀ (ds:List Dt) (vs:List V),Dt.F5 ds=true→Ag ⟨F,m⟩ H A ds vs→Ag ⟨F,m'⟩ H A ds vs
 | [],_,_,h=>h
 | d :: ds,_,p,h=>by
  unfold Ag at h ⊢
  obtain ⟨v,r,e,h1,h2⟩:=h
  unfold Dt.F5 at p
  rw [Bool.and_eq_true] at p
  exact ⟨v,r,e,Rep.RF d v p.1 h1,Ag.RF ds r p.2 h2⟩
end
end
@[simp] theorem na_non:Dt.non.na=true:=rfl
@[simp] theorem PL(b:Bool):(Dt.bl b).na=true:=rfl
@[simp] theorem L5(b:Int):(Dt.int b).na=true:=rfl
@[simp] theorem L3(b:Str):(Dt.str b).na=true:=rfl
@[simp] theorem na_cls(b:Addr):(Dt.cls b).na=true:=rfl
@[simp] theorem na_ptp(b:List Dt):(Dt.ptp b).na=Dt.F5 b:=by rw [Dt.na]
@[simp] theorem na_lst(b:List Dt):(Dt.lst b).na=Dt.F5 b:=by rw [Dt.na]
@[simp] theorem na_fls(b:List Dt):(Dt.fls b).na=Dt.F5 b:=by rw [Dt.na]
@[simp] theorem na_dic(k:List Key)(b:List Dt):(Dt.dic k b).na=Dt.F5 b:=by rw [Dt.na]
@[simp] theorem na_dit(k:List (List Key))(b:List Dt):(Dt.dit k b).na=Dt.F5 b:=by rw [Dt.na]
@[simp] theorem na_obj(C:Addr)(n:List Str)(b:List Dt):(Dt.obj C n b).na=Dt.F5 b:=by rw [Dt.na]
@[simp] theorem nas_nil:Dt.F5 []=true:=rfl
@[simp] theorem Vo(d:Dt)(b:List Dt):Dt.F5 (d :: b)=(d.na && Dt.F5 b):=by rw [Dt.F5]
theorem Yl{ds:List Dt}(h:∀ d∈ds,d.na=true):Dt.F5 ds=true:=by
 induction ds with
 | nil=>rfl
 | cons d ds ih=>
  rw [Vo,h d List.mem_cons_self,ih fun e he=>h e (List.mem_cons_of_mem _ he)]
  rfl
theorem G2{α:Type}{f:α→Dt}(h:∀ x,(f x).na=true)(xs:List α):Dt.F5 (xs.map f)=true:=Yl fun d hd=>by
 obtain ⟨x,_,rfl⟩:=List.mem_map.mp hd
 exact h x
def Ml(n:Nat)(g:Env→SOut)(ds:List Dt):Out Dt:=if Dt.F5 ds=true then (match g (ds.map (fun d=>some (Lo.sh d)) ++ List.replicate (n - ds.length) none ++ [some (.mh [])]) with
 | .ok .nx _=>.ok .non
 | .ok (.rt d) _=>if d.na=true then .ok d else .bad
 | .exc x _=>.exc x
 | _=>.bad) else .bad
section
variable {P:Program} {w:World} {K:PySem.W.Frag} {mg:Str→Option Value} {base:Heap} {H:Hp} {A:Ad} {μ:Mu}
theorem QU{κ:KM}{a:Addr}:¬ Lv κ [] a:=fun ⟨k,c,e,_⟩=>by simp at e
theorem Tr{N:List Str}{n:Nat}{ds:List Dt}{vs:List V}{g:Env→SOut}{ts:TS}{Q:VK}{E:XK}(hN:N.length=n + 1)(hl:ds.length≤n)(hd:F7 K (fun c d _ H'=>E c d H') ts g)(r:Ag ⟨K,μ⟩ H A ds vs)(ha:∀ a,A a→Mut (H a))
  (h:match Ml n g ds with
   | .ok d=>∀ v H',Same H H'→Rep ⟨K,μ⟩ H' A d v→Q v H'
   | .exc x=>∀ c od H',Same H H'→Kb K H' x c od→E c od H'
   | .bad=>False):ts { nx:=fun _ H'=>Q .non H',rt:=Q } (L2.start N vs) H:=by
 unfold Ml at h
 by_cases hna:Dt.F5 ds=true
 case neg=>rw [if_neg hna] at h; exact False.elim h
 rw [if_pos hna] at h
 have r':Ag ⟨K,⟨[],false⟩⟩ H (fun a=>A a∨Lv ⟨K,⟨[],false⟩⟩ [] a) ds vs:=(Ag.RF ds vs hna r).Bv fun a z=>z.elim id fun z=>absurd z QU
 have hm:CW ⟨K,⟨[],false⟩⟩ Zi H (fun a=>A a∨Lv ⟨K,⟨[],false⟩⟩ [] a) (.mh []) none:=⟨fun _ _ _ _ _ e=>by simp at e,rfl,fun _ _ _ e=>by simp at e⟩
 have hH:Hm ⟨K,⟨[],false⟩⟩ [] H=H:=by
  funext a
  unfold Hm
  rw [if_neg QU]
 have st:=MK hN hl r' hm ha (fun a _=>QU) rfl
 rw [hH] at st
 refine hd _ _ A _ _ H _ st ?_
 cases e:g (ds.map (fun d=>some (Lo.sh d)) ++ List.replicate (n - ds.length) none ++ [some (.mh [])]) with
 | ok fl ρ=>
  rw [e] at h
  cases fl with
  | nx=>exact fun μ' σ H' y s'=>h .non H' s'.same rfl
  | rt d=>
   intro μ' v σ H' y s' r''
   simp only at h
   by_cases hd:d.na=true
   ·rw [if_pos hd] at h
    exact h v H' s'.same (Rep.RF d v hd (r''.Bv fun a z=>.inl z))
   ·rw [if_neg hd] at h
    exact False.elim h
  | bk=>exact h.elim
  | ct=>exact h.elim
 | exc x ρ=>
  rw [e] at h
  exact fun μ' σ H' c od y s' r'=>h c od H' s'.same r'
 | bad=>rw [e] at h; exact h.elim
theorem RK{x qual:Str}{params:Arguments}{body:List Stmt}{scope:Scope}{dvs:List V}{kws:List (Str × V)}{f:Addr}{fd:FuncData}{N ps:List Str}{k n:Nat}{g:Env→SOut}(F:FunD K x qual params body scope dvs kws f fd)(S:FnScope N ps scope)(hN:N.length=n + 1)(hp:ps.length≤n)
  (hb:∀ (cdv:Value) (A:Around) (outer:List PySem.Env) (s:Shared) (H:Hp) (E:XK),Room k (A.deeper (envOfC qual scope s.heap.objs.size f cdv)) →
   F0 (cxOf (L2N.CX P w) P w K mg base N qual scope f cdv A outer s H E) (fun c d _ H'=>E c d H') body g):
  FnOk P w K mg base (L2N.CX P w) (k + 1) f fd ps (Cw K ps.length (Ml n g)):=by
 refine F.ok S (fun vs H Q E h=>?_) (fun cdv A outer s H vs Q E hr h=>?_)
 ·obtain ⟨ds,A,μ,r,hl,_⟩:=h
  rw [r.length,hl]
 ·obtain ⟨ds,A',μ,r,hl,ha,h⟩:=h
  obtain ⟨ts,hp',hdd⟩:=hb cdv A outer s H E hr
  exact ⟨ts,hp',Tr hN (by rw [hl]; exact hp) hdd r ha h⟩
end
structure FldC (K:PySem.W.Frag) (C:Addr) (f:Str):Prop where
 cls:Cls K C
 no:NoAttr K C f
section
variable {K:PySem.W.Frag} {S:List Nat} {σ:L2.St} {μ μ':Mu} {H H' H0:Hp} {ρ:Env} {A0:Ad} {lk la lb:List Nat} {W:WX} {d:Dt} {v:V} {n:Nat}
structure ConC (K:PySem.W.Frag) (C:Addr) (f:Str) (d:Dt):Prop where
 cls:Cls K C
 con:∃ v u,Con K C f v u∧∀ κ H A,Rep κ H A d v
end
section
variable {X:Cx} {W:WX} {S:List Nat} {e o:Expr} {fe fo:Env→Out Dt} {f:Env→XO Dt} {lk la lb:List Nat} {pos pos':Pos} {fd:Str} {Cs:List Addr}
end
end FD
namespace FD
open PySem L2 PyProof.Rows PySem.Spec
section
variable {K:PySem.W.Frag} {S:List Nat} {σ:L2.St} {μ μ':Mu} {H H' H0:Hp} {ρ:Env} {A A0:Ad} {lk la lb:List Nat} {W:WX} {d:Dt} {v:V} {n:Nat}
end
structure ClC (P:Program) (w:World) (K:PySem.W.Frag) (mg:Str→Option Value) (base:Heap) (x:Str) (k:Nat) (C:Addr) (φ:List Dt→List Cell→MO):Prop where
 mg_:mg x=some (.ref C)
 ex:∃ f,Mk K C f∧FnR P w K mg base (L2N.CX P w) k f (spM K φ)
section
variable {X:Cx} {W:WX} {S:List Nat} {e o:Expr} {es:List Expr} {fs:Env→Out (List Dt)} {gs:Env→XO (List Dt)} {fo:Env→Out Dt} {lk la:List Nat} {p pos apos:Pos} {C:Addr} {φ:List Dt→List Cell→MO} {ψ:List Dt→Out Dt}
structure MeC (P:Program) (w:World) (K:PySem.W.Frag) (mg:Str→Option Value) (base:Heap) (k:Nat) (C:Addr) (m:Str) (ψ:List Dt→Out Dt):Prop where
 cls:Cls K C
 ex:∃ f,Meth K C m f∧FnR P w K mg base (L2N.CX P w) k f (YI K ψ)
end
end FD
namespace FD
open PySem L2 PyProof.Rows PySem.Spec
def Dt.flat:Dt→Bool
 | .non=>true | .bl _=>true | .int _=>true | .str _=>true
 | _=>false
def eqF:Dt→Dt→Bool
 | .non,.non=>true
 | .bl a,.bl b=>a == b
 | .bl a,.int b=>(if a then 1 else 0) == b
 | .int a,.bl b=>a == (if b then 1 else 0)
 | .int a,.int b=>a == b
 | .str a,.str b=>a == b
 | _,_=>false
def XF(x:Dt)(ds:List Dt):Bool:=ds.any fun y=>eqF y x
def Hu(x b:Dt):Option Bool:=b.X7.bind fun ds=>if x.flat=true∧ds.all Dt.flat=true then some (XF x ds) else none
section
variable {κ:KM} {K:PySem.W.Frag} {H:Hp} {A:Ad}
theorem Qf{d:Dt}{v:V}(h:d.flat=true)(r:Rep κ H A d v):flatV v=true:=by
 cases d <;> first | (cases h; done) | (obtain rfl:v=_:=r; rfl)
theorem Zk{a b:Dt}{x y:V}(ha:a.flat=true)(hb:b.flat=true)(ra:Rep κ H A a x)(rb:Rep κ H A b y):eqV x y=eqF a b:=by
 cases a <;> first | (cases ha; done) | skip
 all_goals obtain rfl:x=_:=ra
 all_goals (cases b <;> first | (cases hb; done) | skip)
 all_goals (obtain rfl:y=_:=rb; rfl)
theorem Oe:∀ {ds:List Dt} {vs:List V},ds.all Dt.flat=true→Ag κ H A ds vs→vs.all flatV=true
 | [],vs,_,r=>by unfold Ag at r; rw [r]; rfl
 | d :: ds,vs,h,r=>by
  unfold Ag at r
  obtain ⟨v,q,rfl,r1,r2⟩:=r
  rw [List.all_cons,Bool.and_eq_true] at h
  rw [List.all_cons,Bool.and_eq_true]
  exact ⟨Qf h.1 r1,Oe h.2 r2⟩
theorem Ve{x:Dt}{u:V}(hx:x.flat=true)(rx:Rep κ H A x u):∀ {ds:List Dt} {vs:List V},ds.all Dt.flat=true→Ag κ H A ds vs→inV u vs=XF x ds
 | [],vs,_,r=>by unfold Ag at r; rw [r]; rfl
 | d :: ds,vs,h,r=>by
  unfold Ag at r
  obtain ⟨v,q,rfl,r1,r2⟩:=r
  rw [List.all_cons,Bool.and_eq_true] at h
  have ih:=Ve hx rx h.2 r2
  unfold inV XF at ih ⊢
  rw [List.any_cons,List.any_cons,ih,Zk h.1 hx r1 rx]
theorem XA{d:Dt}{v:V}{ds:List Dt}(e:d.X7=some ds)(r:Rep κ H A d v):∃ a vs,v=.ref a∧(SqL κ.K H a vs∨SqT κ.K H a vs)∧Ag κ H A ds vs:=by
 cases d <;> first | (cases e; done) | skip
 ·cases e
  unfold Rep at r
  obtain ⟨a,vs,rfl,h1,r2⟩:=r
  exact ⟨a,vs,rfl,.inr (SqT.TH h1),r2⟩
 ·cases e
  unfold Rep at r
  obtain ⟨a,vs,rfl,_,h1,r2⟩:=r
  exact ⟨a,vs,rfl,.inl (SqL.of h1),r2⟩
 ·cases e
  unfold Rep at r
  obtain ⟨a,vs,rfl,h1,r2⟩:=r
  exact ⟨a,vs,rfl,.inl (SqL.Xw h1),r2⟩
theorem VI:KS K (rIn K false) Hu:=by
 intro μ H A a b d x y Q ra rb e q
 unfold Hu at e
 obtain ⟨ds,e1,e⟩:=Option.bind_eq_some_iff.mp e
 obtain ⟨⟨h1,h2⟩,rfl⟩:=AX e
 obtain ⟨p,vs,rfl,hs,r⟩:=XA e1 rb
 refine ⟨p,vs,rfl,hs,Qf h1 ra,Oe h2 r,?_⟩
 show Q (.bl (inV x vs)) H
 rw [Ve h1 ra h2 r]
 exact q
theorem QD:KS K (rIn K true) (CY Hu):=by
 intro μ H A a b d x y Q ra rb e q
 obtain ⟨d',e',rfl⟩:=Option.map_eq_some_iff.mp e
 clear e
 unfold Hu at e'
 obtain ⟨ds,e1,e'⟩:=Option.bind_eq_some_iff.mp e'
 obtain ⟨⟨h1,h2⟩,rfl⟩:=AX e'
 obtain ⟨p,vs,rfl,hs,r⟩:=XA e1 rb
 refine ⟨p,vs,rfl,hs,Qf h1 ra,Oe h2 r,?_⟩
 show Q (.bl (!inV x vs)) H
 rw [Ve h1 ra h2 r]
 exact q
def K3:List Dt→Option Dt
 | [d]=>d.X7.map .tup
 | _=>none
theorem VR{K:PySem.W.Frag}:P9 K (fun xs H Q=>∃ p ys,xs=[.ref p]∧((SqL K H p ys∧∀ l,H l=none→Q (.ref l) (upd H l (.tup ys)))∨(SqT K H p ys∧Q (.ref p) H))) K3:=by
 intro μ H A ds d vs Q ha r e q
 unfold K3 at e
 split at e
 ·obtain ⟨v,rfl,rr⟩:=B5 r
  obtain ⟨es,e1,rfl⟩:=Option.map_eq_some_iff.mp e
  rename_i d
  have fin:∀ {ys:List V},Ag ⟨K,μ⟩ H A es ys→∀ l,H l=none→Q (.ref l) (upd H l (.tup ys)):=fun {ys} r2 l hl=>q (.ref l) _ (Same.new hl) (by
   unfold Rep
   exact ⟨l,ys,rfl,.inl ⟨fun z=>by have:=ha l z; rw [hl] at this; exact this,upd_same⟩,r2.same (Same.new hl)⟩)
  cases d <;> first | (cases e1; done) | skip
  ·cases e1
   have rr':=rr
   unfold Rep at rr
   obtain ⟨a,vs,rfl,h1,r2⟩:=rr
   exact ⟨a,vs,rfl,.inr ⟨SqT.TH h1,RE.now q rr'⟩⟩
  ·cases e1
   unfold Rep at rr
   obtain ⟨a,vs,rfl,_,h1,r2⟩:=rr
   exact ⟨a,vs,rfl,.inl ⟨SqL.of h1,fin r2⟩⟩
  ·cases e1
   unfold Rep at rr
   obtain ⟨a,vs,rfl,h1,r2⟩:=rr
   exact ⟨a,vs,rfl,.inl ⟨SqL.Xw h1,fin r2⟩⟩
 ·cases e
end
section
variable {X:Cx} {W:WX} {S:List Nat} {e o a b:Expr} {es:List Expr} {fs:Env→Out (List Dt)} {gs:Env→XO (List Dt)} {f fa fb:Env→Out Dt} {lk la lb:List Nat} {p pos apos:Pos}
theorem VN(hg:Gl X "tuple")(hm:X.mg "tuple" = none)(ha:JR X W [e] fs lk)(he:starEach [e] X.env=(false,eval e X.env) :: starEach [] X.env:=by rfl):Bp X W (.Call (.Name "tuple" p) [e] [] pos) (eB K3 fs) lk:=by
 obtain ⟨ta,pa,da⟩:=ha
 exact ⟨_,pe_callTy call_tuple_of hg hm boot_tuple pa (by decide) (by decide) he rfl,R8 VR da⟩
end
end FD
namespace FD
open PySem L2 PyProof.Rows PySem.Spec
def QQ:List Dt→Option (List Bool)
 | []=>some []
 | .bl z :: ds=>(QQ ds).map (z :: ·)
 | _=>none
@[simp] theorem OR:∀ zs:List Bool,QQ (zs.map .bl)=some zs
 | []=>rfl
 | z :: zs=>by
  show (QQ (zs.map .bl)).map (z :: ·)=_
  rw [OR zs]
  rfl
def Mg:List Dt→Option Dt
 | [.lst ds]=>(QQ ds).map fun bs=>.bl (bs.any id)
 | [.fls ds]=>(QQ ds).map fun bs=>.bl (bs.any id)
 | _=>none
section
variable {κ:KM} {K:PySem.W.Frag} {H H0 H1:Hp} {A A0:Ad} {ρ:Env} {σ:L2.St} {W:WX} {la lb lk:List Nat}
theorem Qa:∀ {ds:List Dt} {bs:List Bool} {vs:List V},QQ ds=some bs→Ag κ H A ds vs→vs=bs.map V.bl
 | [],bs,vs,e,r=>by cases e; unfold Ag at r; rw [r]; rfl
 | d :: ds,bs,vs,e,r=>by
  unfold Ag at r
  obtain ⟨v,q,rfl,r1,r2⟩:=r
  cases d <;> first | (cases e; done) | skip
  rename_i z
  obtain ⟨bs',e',rfl⟩:=Option.map_eq_some_iff.mp (show (QQ ds).map (z :: ·)=some bs from e)
  obtain rfl:v=.bl z:=r1
  rw [Qa e' r2]
  rfl
theorem WJ{K:PySem.W.Frag}:P9 K (rAny K) Mg:=by
 intro μ H A ds d vs Q ha r e q
 unfold Mg at e
 split at e
 ·obtain ⟨v,rfl,rr⟩:=B5 r
  obtain ⟨bs,e',rfl⟩:=Option.map_eq_some_iff.mp e
  unfold Rep at rr
  obtain ⟨a,us,rfl,_,h1,r2⟩:=rr
  have h2:=Qa e' r2
  subst h2
  exact ⟨a,bs,rfl,SqL.of h1,RE.now q rfl⟩
 ·obtain ⟨v,rfl,rr⟩:=B5 r
  obtain ⟨bs,e',rfl⟩:=Option.map_eq_some_iff.mp e
  unfold Rep at rr
  obtain ⟨a,us,rfl,h1,r2⟩:=rr
  have h2:=Qa e' r2
  subst h2
  exact ⟨a,bs,rfl,SqL.Xw h1,RE.now q rfl⟩
 ·cases e
theorem Sd:∀ ds d,Mg ds=some d→d.scal=true:=fun ds d e=>by
 unfold Mg at e
 split at e
 ·obtain ⟨bs,e',rfl⟩:=Option.map_eq_some_iff.mp e; rfl
 ·obtain ⟨bs,e',rfl⟩:=Option.map_eq_some_iff.mp e; rfl
 ·cases e
end
section
variable {K:PySem.W.Frag} {W:WX} {la lb lk:List Nat}
end
section
variable {X:Cx} {W:WX} {o e a b c d:Expr} {es:List Expr} {fs gs:Env→Out (List Dt)} {f fa fb fc fd:Env→Out Dt} {lk la lb lc ld:List Nat} {p pos apos:Pos}
theorem Ym(hc:X.calm=true)(hg:Gl X "any")(hm:X.mg "any" = none)(ha:JR X W [e] fs lk)(he:starEach [e] X.env=(false,eval e X.env) :: starEach [] X.env:=by rfl):Bp X W (.Call (.Name "any" p) [e] [] pos) (eB Mg fs) []:=by
 obtain ⟨ta,pa,da⟩:=ha
 exact ⟨_,pe_callB (cr_any hc) hg hm boot_any pa (by decide) (by decide) he rfl,Ew WJ Sd da⟩
theorem YL:Cmp X .In Hu:=⟨_,op_in_seq,VI⟩
theorem Tw:Cmp X .NotIn (CY Hu):=⟨_,op_notIn_seq,QD⟩
end
end FD
namespace FD
open PySem L2 PyProof.Rows PySem.Spec
abbrev tys:List String:=["NoneType","bool","int","str","tuple","list","dict"]
theorem Ji{α:Type}{c:Prop}[Decidable c]{a:Option α}{b:α}(h:(if c then a else none)=some b):c∧a=some b:=by
 by_cases hc:c
 ·rw [if_pos hc] at h; exact ⟨hc,h⟩
 ·rw [if_neg hc] at h; cases h
structure IsoC (K:PySem.W.Frag) (C:Addr) (L:List (Addr × Bool)):Prop where
 own:∀ q∈L,C8.InsC K q.1∧PySem.W.kitOne K (.ref q.1) (.ref C)=some q.2
 oth:∀ t∈tys,PySem.W.kitOne K (.type t) (.ref C)=some false
abbrev Yo:=List (Addr × (List Dt→Out Dt))
structure EqC (K:PySem.W.Frag) (L:Yo) (C:Addr):Prop where
 oth:∀ t∈tys,PySem.W.notFirst K C (.type t)=true
 own:∀ q∈L,PySem.W.notFirst K C (.ref q.1)=true
section
variable {X:Cx} {W:WX} {e o a b:Expr} {fs:Env→Out (List Dt)} {f fa fb:Env→Out Dt} {lk la lb:List Nat} {p pos apos:Pos} {L:Yo} {k j:Nat} {ta tb:TE}
end
end FD
namespace FD
open PySem L2 PyProof.Rows PySem.Spec
section
variable {P:Program} {w:World} {K:PySem.W.Frag} {mg:Str→Option Value} {base:Heap}
end
end FD
namespace FD
open PySem L2 PyProof.Rows PySem.Spec
section
variable {X:Cx} {W:WX} {S T:List Nat} {n:Nat} {u:Dt→Env→Option Env} {t:Env→Out Bool} {f:Env→Out Dt} {lk lt le:List Nat}
end
section
variable {X:Cx} {W:WX}
end
section
variable {P:Program} {w:World} {K:PySem.W.Frag} {mg:Str→Option Value} {base:Heap}
theorem BZ{x qual:Str}{params:Arguments}{body:List Stmt}{scope:Scope}{f:Addr}{fd:FuncData}{ps:List Str}(F:FunD K x qual params body scope [] [] f fd)
  (h:∀ (kV doc pm:Value) (an:Option Addr) (cdv ct:Value) (us:List Value),us.length=ps.length→bindArgs (PySem.W.fnOf x qual params body scope .none kV doc pm an cdv ct) ⟨us,[]⟩=pure (ps.zip us)):Binds K fd ps []:=by
 obtain ⟨oc,od,dV,kV,doc,pm,an,cdv,ct,osl,rfl,lk,hcd,hD,_⟩:=F.ex
 rcases hD with ⟨_,rfl⟩ | ⟨z,_⟩
 ·exact .all (h kV doc pm an cdv ct)
 ·exact absurd rfl z
end
end FD
namespace Lk13
open PySem L2 PyProof.Rows PySem.Spec FD
def top(i:Nat):Stmt:=PySem.Challenge.pw_bidehall_k13_normal_form_of_rows.main.body.getD i (.Pass ⟨0,0,0,0⟩)
def YD(s:Stmt):Stmt:=match s with
 | .ClassDef _ _ _ b _ _ _ _ _ _ _=>b.getD 0 (.Pass ⟨0,0,0,0⟩)
 | _=>.Pass ⟨0,0,0,0⟩
abbrev B1:Stmt:=top 18
abbrev BG:Stmt:=top 19
abbrev Bf:Stmt:=top 20
abbrev BD:Stmt:=top 21
abbrev Ba:Stmt:=top 22
abbrev A1:Stmt:=top 23
abbrev B0:Stmt:=top 24
abbrev Bb:Stmt:=top 25
abbrev BC:Stmt:=top 26
abbrev CM:Stmt:=top 8
abbrev CL:Stmt:=top 9
abbrev BE:Stmt:=top 10
abbrev CB:Stmt:=top 11
abbrev Cz:Stmt:=top 12
abbrev BI:Stmt:=top 14
abbrev Bg:Stmt:=top 15
abbrev AE:Stmt:=top 38
abbrev Bo:Stmt:=top 27
abbrev AV:Stmt:=top 17
abbrev BH:Stmt:=top 30
abbrev AA:Stmt:=top 32
abbrev A2:Stmt:=top 33
abbrev BM:Stmt:=top 34
abbrev Be:Stmt:=top 35
abbrev A8:Stmt:=top 36
abbrev AZ:Stmt:=top 37
abbrev A9:Stmt:=top 28
abbrev BJ:Stmt:=top 29
abbrev AM:Stmt:=top 31
abbrev AY:Stmt:=top 39
abbrev Bm:Stmt:=top 40
abbrev Dc:Stmt:=top 41
abbrev C6:Stmt:=YD (top 4)
structure Cs where
 c_EmptyForm:Addr
 c_NoName:Addr
 c_NoAnswer:Addr
 c_Unfit:Addr
 c_HouseError:Addr
 c_Refused:Addr
abbrev Cs.all(cs:Cs):List Addr:=[cs.c_EmptyForm]
abbrev BA:List Str:=[]
def Bk:List Dt→Bool:=fun _=>true
abbrev El:List V→Prop:=(fun _=>True)
theorem Hk(K:PySem.W.Frag):OkV K Bk El:=fun _ _ _ _ _ _ _=>trivial
structure Tx (P:Program) (w:World) (K:PySem.W.Frag) (mg:Str→Option Value) (base:Heap) (cs:Cs):Prop where
 n_ValueError:mg "ValueError" = none
 n_abs:mg "abs" = none
 n_any:mg "any" = none
 n_bool:mg "bool" = none
 n_dict:mg "dict" = none
 n_int:mg "int" = none
 n_isinstance:mg "isinstance" = none
 n_len:mg "len" = none
 n_list:mg "list" = none
 n_max:mg "max" = none
 n_min:mg "min" = none
 n_range:mg "range" = none
 n_sorted:mg "sorted" = none
 n_str:mg "str" = none
 n_sum:mg "sum" = none
 n_tuple:mg "tuple" = none
 Bk:mg "EmptyForm" = some (.ref cs.c_EmptyForm)
 g_NoName:mg "NoName" = some (.ref cs.c_NoName)
 g_NoAnswer:mg "NoAnswer" = some (.ref cs.c_NoAnswer)
 g_Unfit:mg "Unfit" = some (.ref cs.c_Unfit)
 g_HouseError:mg "HouseError" = some (.ref cs.c_HouseError)
 g_Refused:mg "Refused" = some (.ref cs.c_Refused)
 m_EmptyForm:PySem.FX.XMk P w K mg base cs.c_EmptyForm BA El
 k_EmptyForm:PySem.W.keepIn K (.ref cs.c_EmptyForm)=true
 e_EmptyForm:PySem.W.subIn K (.ref cs.c_EmptyForm) (.type "BaseException")=some true
 t_EmptyForm:PySem.W.typeIn K (.ref cs.c_EmptyForm)=some (.type "type")
 xc:∀ C:Addr,C∈cs.all→ExcC K C
 x_EmptyForm_EmptyForm:PySem.W.exmOne K (.ref cs.c_EmptyForm) (.ref cs.c_EmptyForm)=some true
 x_EmptyForm_HouseError:PySem.W.exmOne K (.ref cs.c_EmptyForm) (.ref cs.c_HouseError)=some true
 i_EmptyForm_Refused:PySem.W.kitOne K (.ref cs.c_EmptyForm) (.ref cs.c_Refused)=some true
 i_EmptyForm_HouseError:PySem.W.kitOne K (.ref cs.c_EmptyForm) (.ref cs.c_HouseError)=some true
 i_EmptyForm_ValueError:PySem.W.kitOne K (.ref cs.c_EmptyForm) (.type "ValueError")=some true
 i_EmptyForm_Unfit:PySem.W.kitOne K (.ref cs.c_EmptyForm) (.ref cs.c_Unfit)=some false
 i_EmptyForm_NoAnswer:PySem.W.kitOne K (.ref cs.c_EmptyForm) (.ref cs.c_NoAnswer)=some false
 i_EmptyForm_NoName:PySem.W.kitOne K (.ref cs.c_EmptyForm) (.ref cs.c_NoName)=some false
 F__law_box:∃ (a:Addr) (fd:FuncData),FunD K "_law_box" "_law_box" (defArgs B1) (defBody B1) (defScope B1) [] [] a fd∧mg "_law_box" = some (.ref a)
 F__law_take:∃ (a:Addr) (fd:FuncData),FunD K "_law_take" "_law_take" (defArgs BG) (defBody BG) (defScope BG) [] [] a fd∧mg "_law_take" = some (.ref a)
 F__law_fresh:∃ (a:Addr) (fd:FuncData),FunD K "_law_fresh" "_law_fresh" (defArgs Bf) (defBody Bf) (defScope Bf) [] [] a fd∧mg "_law_fresh" = some (.ref a)
 F__law_word:∃ (a:Addr) (fd:FuncData),FunD K "_law_word" "_law_word" (defArgs BD) (defBody BD) (defScope BD) [] [] a fd∧mg "_law_word" = some (.ref a)
 F__law_names:∃ (a:Addr) (fd:FuncData),FunD K "_law_names" "_law_names" (defArgs Ba) (defBody Ba) (defScope Ba) [] [] a fd∧mg "_law_names" = some (.ref a)
 F__law_spread:∃ (a:Addr) (fd:FuncData),FunD K "_law_spread" "_law_spread" (defArgs A1) (defBody A1) (defScope A1) [] [] a fd∧mg "_law_spread" = some (.ref a)
 F__law_row:∃ (a:Addr) (fd:FuncData),FunD K "_law_row" "_law_row" (defArgs B0) (defBody B0) (defScope B0) [] [] a fd∧mg "_law_row" = some (.ref a)
 F__law_above:∃ (a:Addr) (fd:FuncData),FunD K "_law_above" "_law_above" (defArgs Bb) (defBody Bb) (defScope Bb) [] [] a fd∧mg "_law_above" = some (.ref a)
 F__law_rows:∃ (a:Addr) (fd:FuncData),FunD K "_law_rows" "_law_rows" (defArgs BC) (defBody BC) (defScope BC) [] [] a fd∧mg "_law_rows" = some (.ref a)
 F_row_of:∃ (a:Addr) (fd:FuncData),FunD K "row_of" "row_of" (defArgs CM) (defBody CM) (defScope CM) [] [] a fd∧mg "row_of" = some (.ref a)
 F_within:∃ (a:Addr) (fd:FuncData),FunD K "within" "within" (defArgs CL) (defBody CL) (defScope CL) [] [] a fd∧mg "within" = some (.ref a)
 F_has_below:∃ (a:Addr) (fd:FuncData),FunD K "has_below" "has_below" (defArgs BE) (defBody BE) (defScope BE) [] [] a fd∧mg "has_below" = some (.ref a)
 F_lowest:∃ (a:Addr) (fd:FuncData),FunD K "lowest" "lowest" (defArgs CB) (defBody CB) (defScope CB) [] [] a fd∧mg "lowest" = some (.ref a)
 F_normal:∃ (a:Addr) (fd:FuncData),FunD K "normal" "normal" (defArgs Cz) (defBody Cz) (defScope Cz) [] [] a fd∧mg "normal" = some (.ref a)
 F_need_rows:∃ (a:Addr) (fd:FuncData),FunD K "need_rows" "need_rows" (defArgs BI) (defBody BI) (defScope BI) [] [] a fd∧mg "need_rows" = some (.ref a)
 F_least_rows:∃ (a:Addr) (fd:FuncData),FunD K "least_rows" "least_rows" (defArgs Bg) (defBody Bg) (defScope Bg) [] [] a fd∧mg "least_rows" = some (.ref a)
 F__law_refuses:∃ (a:Addr) (fd:FuncData),FunD K "_law_refuses" "_law_refuses" (defArgs AE) (defBody AE) (defScope AE) [] [] a fd∧mg "_law_refuses" = some (.ref a)
 F__law_bent:∃ (a:Addr) (fd:FuncData),FunD K "_law_bent" "_law_bent" (defArgs Bo) (defBody Bo) (defScope Bo) [] [] a fd∧mg "_law_bent" = some (.ref a)
 F__law_integer:∃ (a:Addr) (fd:FuncData),FunD K "_law_integer" "_law_integer" (defArgs AV) (defBody AV) (defScope AV) [] [] a fd∧mg "_law_integer" = some (.ref a)
 F__law_form:∃ (a:Addr) (fd:FuncData),FunD K "_law_form" "_law_form" (defArgs BH) (defBody BH) (defScope BH) [] [] a fd∧mg "_law_form" = some (.ref a)
 F__law_row_value:∃ (a:Addr) (fd:FuncData),FunD K "_law_row_value" "_law_row_value" (defArgs AA) (defBody AA) (defScope AA) [] [] a fd∧mg "_law_row_value" = some (.ref a)
 F__law_value:∃ (a:Addr) (fd:FuncData),FunD K "_law_value" "_law_value" (defArgs A2) (defBody A2) (defScope A2) [] [] a fd∧mg "_law_value" = some (.ref a)
 F__law_far:∃ (a:Addr) (fd:FuncData),FunD K "_law_far" "_law_far" (defArgs BM) (defBody BM) (defScope BM) [] [] a fd∧mg "_law_far" = some (.ref a)
 F__law_point:∃ (a:Addr) (fd:FuncData),FunD K "_law_point" "_law_point" (defArgs Be) (defBody Be) (defScope Be) [] [] a fd∧mg "_law_point" = some (.ref a)
 F__law_agree:∃ (a:Addr) (fd:FuncData),FunD K "_law_agree" "_law_agree" (defArgs A8) (defBody A8) (defScope A8) [] [] a fd∧mg "_law_agree" = some (.ref a)
 F__law_turned:∃ (a:Addr) (fd:FuncData),FunD K "_law_turned" "_law_turned" (defArgs AZ) (defBody AZ) (defScope AZ) [] [] a fd∧mg "_law_turned" = some (.ref a)
 F__law_below:∃ (a:Addr) (fd:FuncData),FunD K "_law_below" "_law_below" (defArgs A9) (defBody A9) (defScope A9) [] [] a fd∧mg "_law_below" = some (.ref a)
 F__law_flat:∃ (a:Addr) (fd:FuncData),FunD K "_law_flat" "_law_flat" (defArgs BJ) (defBody BJ) (defScope BJ) [] [] a fd∧mg "_law_flat" = some (.ref a)
 F__law_normal:∃ (a:Addr) (fd:FuncData),FunD K "_law_normal" "_law_normal" (defArgs AM) (defBody AM) (defScope AM) [] [] a fd∧mg "_law_normal" = some (.ref a)
 F__law_told:∃ (a:Addr) (fd:FuncData),FunD K "_law_told" "_law_told" (defArgs AY) (defBody AY) (defScope AY) [] [] a fd∧mg "_law_told" = some (.ref a)
 F__law_good:∃ (a:Addr) (fd:FuncData),FunD K "_law_good" "_law_good" (defArgs Bm) (defBody Bm) (defScope Bm) [] [] a fd∧mg "_law_good" = some (.ref a)
 F_law:∃ (a:Addr) (fd:FuncData),FunD K "law" "law" (defArgs Dc) (defBody Dc) (defScope Dc) [] [] a fd∧mg "law" = some (.ref a)
theorem all_mk{w:World}{K:PySem.W.Frag}{h:Heap}{mg:Str→Option Value}{fa:Addr}(X:K.In h)(G:h.Ns mainGlobals mg)(hfa:mg "law" = some (.ref fa))
  {c_EmptyForm:Addr} {c_NoName:Addr} {c_NoAnswer:Addr} {c_Unfit:Addr} {c_HouseError:Addr} {c_Refused:Addr} {nm_EmptyForm:Str} {q_EmptyForm:Str} {nsa_EmptyForm:Addr} {bs_EmptyForm:List Value} {sn_EmptyForm:List Str} {sub_EmptyForm:List Value} {ab_EmptyForm:Bool} {col_EmptyForm:Option Bool} {dd_EmptyForm:Option Addr} {m0_EmptyForm:Option Value} {m1_EmptyForm:Option Value} {m2_EmptyForm:Option Value} {m3_EmptyForm:Option Value} {m5_EmptyForm:Option Value} {fi_EmptyForm:Addr} {oc_EmptyForm:Value} {od_EmptyForm:Option Addr} {kV_EmptyForm:Value} {dc_EmptyForm:Value} {pm_EmptyForm:Value} {an_EmptyForm:Option Addr} {cda_EmptyForm:Addr} {ct_EmptyForm:Value} {cc_EmptyForm:Addr} {sl_EmptyForm:Array (Option Value)} {cl_EmptyForm:Value} {cld_EmptyForm:Option Addr} {csl_EmptyForm:Array (Option Value)} {ccl_EmptyForm:Value} {cdd_EmptyForm:Option Addr} {cvs_EmptyForm:Array Value} {ccs_EmptyForm:Array (Option Value)} {cf_EmptyForm:Str} {ctk_EmptyForm:Tok} {f__law_box:Addr} {oc__law_box:Value} {od__law_box:Option Addr} {kV__law_box:Value} {dc__law_box:Value} {pm__law_box:Value} {an__law_box:Option Addr} {cd__law_box:Value} {ct__law_box:Value} {sl__law_box:Array (Option Value)} {f__law_take:Addr} {oc__law_take:Value} {od__law_take:Option Addr} {kV__law_take:Value} {dc__law_take:Value} {pm__law_take:Value} {an__law_take:Option Addr} {cd__law_take:Value} {ct__law_take:Value} {sl__law_take:Array (Option Value)} {f__law_fresh:Addr} {oc__law_fresh:Value} {od__law_fresh:Option Addr} {kV__law_fresh:Value} {dc__law_fresh:Value} {pm__law_fresh:Value} {an__law_fresh:Option Addr} {cd__law_fresh:Value} {ct__law_fresh:Value} {sl__law_fresh:Array (Option Value)} {f__law_word:Addr} {oc__law_word:Value} {od__law_word:Option Addr} {kV__law_word:Value} {dc__law_word:Value} {pm__law_word:Value} {an__law_word:Option Addr} {cd__law_word:Value} {ct__law_word:Value} {sl__law_word:Array (Option Value)} {f__law_names:Addr} {oc__law_names:Value} {od__law_names:Option Addr} {kV__law_names:Value} {dc__law_names:Value} {pm__law_names:Value} {an__law_names:Option Addr} {cd__law_names:Value} {ct__law_names:Value} {sl__law_names:Array (Option Value)} {f__law_spread:Addr} {oc__law_spread:Value} {od__law_spread:Option Addr} {kV__law_spread:Value} {dc__law_spread:Value} {pm__law_spread:Value} {an__law_spread:Option Addr} {cd__law_spread:Value} {ct__law_spread:Value} {sl__law_spread:Array (Option Value)} {f__law_row:Addr} {oc__law_row:Value} {od__law_row:Option Addr} {kV__law_row:Value} {dc__law_row:Value} {pm__law_row:Value} {an__law_row:Option Addr} {cd__law_row:Value} {ct__law_row:Value} {sl__law_row:Array (Option Value)} {f__law_above:Addr} {oc__law_above:Value} {od__law_above:Option Addr} {kV__law_above:Value} {dc__law_above:Value} {pm__law_above:Value} {an__law_above:Option Addr} {cd__law_above:Value} {ct__law_above:Value} {sl__law_above:Array (Option Value)} {f__law_rows:Addr} {oc__law_rows:Value} {od__law_rows:Option Addr} {kV__law_rows:Value} {dc__law_rows:Value} {pm__law_rows:Value} {an__law_rows:Option Addr} {cd__law_rows:Value} {ct__law_rows:Value} {sl__law_rows:Array (Option Value)} {f_row_of:Addr} {oc_row_of:Value} {od_row_of:Option Addr} {kV_row_of:Value} {dc_row_of:Value} {pm_row_of:Value} {an_row_of:Option Addr} {cd_row_of:Value} {ct_row_of:Value} {sl_row_of:Array (Option Value)} {f_within:Addr} {oc_within:Value} {od_within:Option Addr} {kV_within:Value} {dc_within:Value} {pm_within:Value} {an_within:Option Addr} {cd_within:Value} {ct_within:Value} {sl_within:Array (Option Value)} {f_has_below:Addr} {oc_has_below:Value} {od_has_below:Option Addr} {kV_has_below:Value} {dc_has_below:Value} {pm_has_below:Value} {an_has_below:Option Addr} {cd_has_below:Value} {ct_has_below:Value} {sl_has_below:Array (Option Value)} {f_lowest:Addr} {oc_lowest:Value} {od_lowest:Option Addr} {kV_lowest:Value} {dc_lowest:Value} {pm_lowest:Value} {an_lowest:Option Addr} {cd_lowest:Value} {ct_lowest:Value} {sl_lowest:Array (Option Value)} {f_normal:Addr} {oc_normal:Value} {od_normal:Option Addr} {kV_normal:Value} {dc_normal:Value} {pm_normal:Value} {an_normal:Option Addr} {cd_normal:Value} {ct_normal:Value} {sl_normal:Array (Option Value)} {f_need_rows:Addr} {oc_need_rows:Value} {od_need_rows:Option Addr} {kV_need_rows:Value} {dc_need_rows:Value} {pm_need_rows:Value} {an_need_rows:Option Addr} {cd_need_rows:Value} {ct_need_rows:Value} {sl_need_rows:Array (Option Value)} {f_least_rows:Addr} {oc_least_rows:Value} {od_least_rows:Option Addr} {kV_least_rows:Value} {dc_least_rows:Value} {pm_least_rows:Value} {an_least_rows:Option Addr} {cd_least_rows:Value} {ct_least_rows:Value} {sl_least_rows:Array (Option Value)} {f__law_refuses:Addr} {oc__law_refuses:Value} {od__law_refuses:Option Addr} {kV__law_refuses:Value} {dc__law_refuses:Value} {pm__law_refuses:Value} {an__law_refuses:Option Addr} {cd__law_refuses:Value} {ct__law_refuses:Value} {sl__law_refuses:Array (Option Value)} {f__law_bent:Addr} {oc__law_bent:Value} {od__law_bent:Option Addr} {kV__law_bent:Value} {dc__law_bent:Value} {pm__law_bent:Value} {an__law_bent:Option Addr} {cd__law_bent:Value} {ct__law_bent:Value} {sl__law_bent:Array (Option Value)} {f__law_integer:Addr} {oc__law_integer:Value} {od__law_integer:Option Addr} {kV__law_integer:Value} {dc__law_integer:Value} {pm__law_integer:Value} {an__law_integer:Option Addr} {cd__law_integer:Value} {ct__law_integer:Value} {sl__law_integer:Array (Option Value)} {f__law_form:Addr} {oc__law_form:Value} {od__law_form:Option Addr} {kV__law_form:Value} {dc__law_form:Value} {pm__law_form:Value} {an__law_form:Option Addr} {cd__law_form:Value} {ct__law_form:Value} {sl__law_form:Array (Option Value)} {f__law_row_value:Addr} {oc__law_row_value:Value} {od__law_row_value:Option Addr} {kV__law_row_value:Value} {dc__law_row_value:Value} {pm__law_row_value:Value} {an__law_row_value:Option Addr} {cd__law_row_value:Value} {ct__law_row_value:Value} {sl__law_row_value:Array (Option Value)} {f__law_value:Addr} {oc__law_value:Value} {od__law_value:Option Addr} {kV__law_value:Value} {dc__law_value:Value} {pm__law_value:Value} {an__law_value:Option Addr} {cd__law_value:Value} {ct__law_value:Value} {sl__law_value:Array (Option Value)} {f__law_far:Addr} {oc__law_far:Value} {od__law_far:Option Addr} {kV__law_far:Value} {dc__law_far:Value} {pm__law_far:Value} {an__law_far:Option Addr} {cd__law_far:Value} {ct__law_far:Value} {sl__law_far:Array (Option Value)} {f__law_point:Addr} {oc__law_point:Value} {od__law_point:Option Addr} {kV__law_point:Value} {dc__law_point:Value} {pm__law_point:Value} {an__law_point:Option Addr} {cd__law_point:Value} {ct__law_point:Value} {sl__law_point:Array (Option Value)} {f__law_agree:Addr} {oc__law_agree:Value} {od__law_agree:Option Addr} {kV__law_agree:Value} {dc__law_agree:Value} {pm__law_agree:Value} {an__law_agree:Option Addr} {cd__law_agree:Value} {ct__law_agree:Value} {sl__law_agree:Array (Option Value)} {f__law_turned:Addr} {oc__law_turned:Value} {od__law_turned:Option Addr} {kV__law_turned:Value} {dc__law_turned:Value} {pm__law_turned:Value} {an__law_turned:Option Addr} {cd__law_turned:Value} {ct__law_turned:Value} {sl__law_turned:Array (Option Value)} {f__law_below:Addr} {oc__law_below:Value} {od__law_below:Option Addr} {kV__law_below:Value} {dc__law_below:Value} {pm__law_below:Value} {an__law_below:Option Addr} {cd__law_below:Value} {ct__law_below:Value} {sl__law_below:Array (Option Value)} {f__law_flat:Addr} {oc__law_flat:Value} {od__law_flat:Option Addr} {kV__law_flat:Value} {dc__law_flat:Value} {pm__law_flat:Value} {an__law_flat:Option Addr} {cd__law_flat:Value} {ct__law_flat:Value} {sl__law_flat:Array (Option Value)} {f__law_normal:Addr} {oc__law_normal:Value} {od__law_normal:Option Addr} {kV__law_normal:Value} {dc__law_normal:Value} {pm__law_normal:Value} {an__law_normal:Option Addr} {cd__law_normal:Value} {ct__law_normal:Value} {sl__law_normal:Array (Option Value)} {f__law_told:Addr} {oc__law_told:Value} {od__law_told:Option Addr} {kV__law_told:Value} {dc__law_told:Value} {pm__law_told:Value} {an__law_told:Option Addr} {cd__law_told:Value} {ct__law_told:Value} {sl__law_told:Array (Option Value)} {f__law_good:Addr} {oc__law_good:Value} {od__law_good:Option Addr} {kV__law_good:Value} {dc__law_good:Value} {pm__law_good:Value} {an__law_good:Option Addr} {cd__law_good:Value} {ct__law_good:Value} {sl__law_good:Array (Option Value)} {f_law:Addr} {oc_law:Value} {od_law:Option Addr} {kV_law:Value} {dc_law:Value} {pm_law:Value} {an_law:Option Addr} {cd_law:Value} {ct_law:Value} {sl_law:Array (Option Value)}
  (z_ValueError:PySem.W.nsIn K mainGlobals "ValueError" = some none)
  (z_abs:PySem.W.nsIn K mainGlobals "abs" = some none)
  (z_any:PySem.W.nsIn K mainGlobals "any" = some none)
  (z_bool:PySem.W.nsIn K mainGlobals "bool" = some none)
  (z_dict:PySem.W.nsIn K mainGlobals "dict" = some none)
  (z_int:PySem.W.nsIn K mainGlobals "int" = some none)
  (z_isinstance:PySem.W.nsIn K mainGlobals "isinstance" = some none)
  (z_len:PySem.W.nsIn K mainGlobals "len" = some none)
  (z_list:PySem.W.nsIn K mainGlobals "list" = some none)
  (z_max:PySem.W.nsIn K mainGlobals "max" = some none)
  (z_min:PySem.W.nsIn K mainGlobals "min" = some none)
  (z_range:PySem.W.nsIn K mainGlobals "range" = some none)
  (z_sorted:PySem.W.nsIn K mainGlobals "sorted" = some none)
  (z_str:PySem.W.nsIn K mainGlobals "str" = some none)
  (z_sum:PySem.W.nsIn K mainGlobals "sum" = some none)
  (z_tuple:PySem.W.nsIn K mainGlobals "tuple" = some none)
  (a_EmptyForm:PySem.W.nsIn K mainGlobals "EmptyForm" = some (some (.ref c_EmptyForm)))
  (a_NoName:PySem.W.nsIn K mainGlobals "NoName" = some (some (.ref c_NoName)))
  (a_NoAnswer:PySem.W.nsIn K mainGlobals "NoAnswer" = some (some (.ref c_NoAnswer)))
  (a_Unfit:PySem.W.nsIn K mainGlobals "Unfit" = some (some (.ref c_Unfit)))
  (a_HouseError:PySem.W.nsIn K mainGlobals "HouseError" = some (some (.ref c_HouseError)))
  (a_Refused:PySem.W.nsIn K mainGlobals "Refused" = some (some (.ref c_Refused)))
  (xl_EmptyForm:K.lookup c_EmptyForm=some (excClassObj nm_EmptyForm q_EmptyForm c_EmptyForm nsa_EmptyForm bs_EmptyForm [.ref c_Refused,.ref c_HouseError,.type "ValueError",.type "Exception",.type "BaseException",.type "object"] true sn_EmptyForm sub_EmptyForm ab_EmptyForm col_EmptyForm dd_EmptyForm m0_EmptyForm m1_EmptyForm m2_EmptyForm m3_EmptyForm m5_EmptyForm "ValueError.__new__"))
  (sa_EmptyForm:PySem.W.findIn K (.ref c_EmptyForm) "__setattr__" = some (some (.builtin "object.__setattr__")))
  (ic_EmptyForm:PySem.W.findIn K (.ref c_EmptyForm) "__init__" = some (some (.ref fi_EmptyForm)))
  (ti_EmptyForm:PySem.W.typeIn K (.ref fi_EmptyForm)=some (.type "function"))
  (kc_EmptyForm:PySem.W.keepIn K (.ref c_EmptyForm)=true)
  (ex_EmptyForm:PySem.W.subIn K (.ref c_EmptyForm) (.type "BaseException")=some true)
  (ev_EmptyForm:PySem.W.subIn K (.ref c_EmptyForm) (.type "ValueError")=some true)
  (ty_EmptyForm:PySem.W.typeIn K (.ref c_EmptyForm)=some (.type "type"))
  (su_EmptyForm:PySem.W.mroIn K c_EmptyForm (.ref c_EmptyForm)=some true)
  (si_EmptyForm:PySem.W.ks_superIn K c_EmptyForm c_EmptyForm "__init__" = some (some (.builtin "ValueError.__init__")))
  (lf_EmptyForm:K.lookup fi_EmptyForm=some ⟨oc_EmptyForm,od_EmptyForm,.func (PySem.W.ksFn "__init__" "EmptyForm.__init__" (defArgs C6) (defBody C6) (defScope C6) .none kV_EmptyForm dc_EmptyForm pm_EmptyForm an_EmptyForm (.ref cda_EmptyForm) ct_EmptyForm cc_EmptyForm),sl_EmptyForm⟩)
  (cd_EmptyForm:PySem.W.codeIn K (.ref cda_EmptyForm) "EmptyForm.__init__" = true)
  (ce_EmptyForm:K.lookup cc_EmptyForm=some ⟨cl_EmptyForm,cld_EmptyForm,.cell (some (.ref c_EmptyForm)),csl_EmptyForm⟩)
  (co_EmptyForm:K.lookup cda_EmptyForm=some ⟨ccl_EmptyForm,cdd_EmptyForm,.fields cvs_EmptyForm,ccs_EmptyForm⟩)
  (cs_EmptyForm:cvs_EmptyForm[2]? = some (.str cf_EmptyForm ctk_EmptyForm))
  (cf_EmptyForm:((PySem.Challenge.pw_bidehall_k13_normal_form_of_rows.main.file:Str) == cf_EmptyForm)=true)
  (hg_EmptyForm:PySem.W.findIn K (.ref c_EmptyForm) "__getattribute__" = some (some (.builtin "BaseException.__getattribute__")))
  (hk_EmptyForm:PySem.W.findIn K (.ref c_EmptyForm) "__getattr__" = some none)
  (hd_EmptyForm:PySem.W.hasDictIn K c_EmptyForm=true)
  (ha_EmptyForm:PySem.W.findIn K (.ref c_EmptyForm) "__class__" = some (some (.builtin "object.__class__")))
  (ho_EmptyForm:PySem.W.mroIn K c_EmptyForm (.type "object")=some true)
  (sb_EmptyForm_EmptyForm:PySem.W.subIn K (.ref c_EmptyForm) (.ref c_EmptyForm)=some true)
  (sb_EmptyForm_HouseError:PySem.W.subIn K (.ref c_EmptyForm) (.ref c_HouseError)=some true)
  (ne_EmptyForm_HouseError:(Value.ref c_EmptyForm == Value.ref c_HouseError)=false)
  (sb_EmptyForm_Refused:PySem.W.subIn K (.ref c_EmptyForm) (.ref c_Refused)=some true)
  (ne_EmptyForm_Refused:(Value.ref c_EmptyForm == Value.ref c_Refused)=false)
  (sb_EmptyForm_ValueError:PySem.W.subIn K (.ref c_EmptyForm) (.type "ValueError")=some true)
  (sb_EmptyForm_Unfit:PySem.W.subIn K (.ref c_EmptyForm) (.ref c_Unfit)=some false)
  (ne_EmptyForm_Unfit:(Value.ref c_EmptyForm == Value.ref c_Unfit)=false)
  (sb_EmptyForm_NoAnswer:PySem.W.subIn K (.ref c_EmptyForm) (.ref c_NoAnswer)=some false)
  (ne_EmptyForm_NoAnswer:(Value.ref c_EmptyForm == Value.ref c_NoAnswer)=false)
  (sb_EmptyForm_NoName:PySem.W.subIn K (.ref c_EmptyForm) (.ref c_NoName)=some false)
  (ne_EmptyForm_NoName:(Value.ref c_EmptyForm == Value.ref c_NoName)=false)
  (ci_EmptyForm:PySem.W.isClsIn K c_EmptyForm=true)
  (ct_EmptyForm:PySem.W.typeIn K (.ref c_EmptyForm)=some (.type "type"))
  (cb_EmptyForm:PySem.W.subIn K (.ref c_EmptyForm) (.type "BaseException")=some true)
  (ci_HouseError:PySem.W.isClsIn K c_HouseError=true)
  (ct_HouseError:PySem.W.typeIn K (.ref c_HouseError)=some (.type "type"))
  (cb_HouseError:PySem.W.subIn K (.ref c_HouseError) (.type "BaseException")=some true)
  (ci_Refused:PySem.W.isClsIn K c_Refused=true)
  (ct_Refused:PySem.W.typeIn K (.ref c_Refused)=some (.type "type"))
  (cb_Refused:PySem.W.subIn K (.ref c_Refused) (.type "BaseException")=some true)
  (ci_Unfit:PySem.W.isClsIn K c_Unfit=true)
  (ct_Unfit:PySem.W.typeIn K (.ref c_Unfit)=some (.type "type"))
  (cb_Unfit:PySem.W.subIn K (.ref c_Unfit) (.type "BaseException")=some true)
  (ci_NoAnswer:PySem.W.isClsIn K c_NoAnswer=true)
  (ct_NoAnswer:PySem.W.typeIn K (.ref c_NoAnswer)=some (.type "type"))
  (cb_NoAnswer:PySem.W.subIn K (.ref c_NoAnswer) (.type "BaseException")=some true)
  (ci_NoName:PySem.W.isClsIn K c_NoName=true)
  (ct_NoName:PySem.W.typeIn K (.ref c_NoName)=some (.type "type"))
  (cb_NoName:PySem.W.subIn K (.ref c_NoName) (.type "BaseException")=some true)
  (any:PySem.W.nsIn K PySem.cStatics "thirdparty.any" = some none)
  (zsup:PySem.W.nsIn K mainGlobals "super" = some none)
  (hn:PySem.W.specialIn K (.builtin "object.__class__") "__get__" = some (some (.builtin "getset_descriptor.__get__")))
  (ht:PySem.W.takesIn K (.builtin "object.__class__")=some true)
  (a__law_box:PySem.W.nsIn K mainGlobals "_law_box" = some (some (.ref f__law_box)))
  (l__law_box:K.lookup f__law_box=some ⟨oc__law_box,od__law_box,.func (PySem.W.fnOf "_law_box" "_law_box" (defArgs B1) (defBody B1) (defScope B1) .none kV__law_box dc__law_box pm__law_box an__law_box cd__law_box ct__law_box),sl__law_box⟩)
  (o__law_box:PySem.W.codeIn K cd__law_box "_law_box" = true)
  (k__law_box:PySem.W.keepIn K (.ref f__law_box)=true)
  (a__law_take:PySem.W.nsIn K mainGlobals "_law_take" = some (some (.ref f__law_take)))
  (l__law_take:K.lookup f__law_take=some ⟨oc__law_take,od__law_take,.func (PySem.W.fnOf "_law_take" "_law_take" (defArgs BG) (defBody BG) (defScope BG) .none kV__law_take dc__law_take pm__law_take an__law_take cd__law_take ct__law_take),sl__law_take⟩)
  (o__law_take:PySem.W.codeIn K cd__law_take "_law_take" = true)
  (k__law_take:PySem.W.keepIn K (.ref f__law_take)=true)
  (a__law_fresh:PySem.W.nsIn K mainGlobals "_law_fresh" = some (some (.ref f__law_fresh)))
  (l__law_fresh:K.lookup f__law_fresh=some ⟨oc__law_fresh,od__law_fresh,.func (PySem.W.fnOf "_law_fresh" "_law_fresh" (defArgs Bf) (defBody Bf) (defScope Bf) .none kV__law_fresh dc__law_fresh pm__law_fresh an__law_fresh cd__law_fresh ct__law_fresh),sl__law_fresh⟩)
  (o__law_fresh:PySem.W.codeIn K cd__law_fresh "_law_fresh" = true)
  (k__law_fresh:PySem.W.keepIn K (.ref f__law_fresh)=true)
  (a__law_word:PySem.W.nsIn K mainGlobals "_law_word" = some (some (.ref f__law_word)))
  (l__law_word:K.lookup f__law_word=some ⟨oc__law_word,od__law_word,.func (PySem.W.fnOf "_law_word" "_law_word" (defArgs BD) (defBody BD) (defScope BD) .none kV__law_word dc__law_word pm__law_word an__law_word cd__law_word ct__law_word),sl__law_word⟩)
  (o__law_word:PySem.W.codeIn K cd__law_word "_law_word" = true)
  (k__law_word:PySem.W.keepIn K (.ref f__law_word)=true)
  (a__law_names:PySem.W.nsIn K mainGlobals "_law_names" = some (some (.ref f__law_names)))
  (l__law_names:K.lookup f__law_names=some ⟨oc__law_names,od__law_names,.func (PySem.W.fnOf "_law_names" "_law_names" (defArgs Ba) (defBody Ba) (defScope Ba) .none kV__law_names dc__law_names pm__law_names an__law_names cd__law_names ct__law_names),sl__law_names⟩)
  (o__law_names:PySem.W.codeIn K cd__law_names "_law_names" = true)
  (k__law_names:PySem.W.keepIn K (.ref f__law_names)=true)
  (a__law_spread:PySem.W.nsIn K mainGlobals "_law_spread" = some (some (.ref f__law_spread)))
  (l__law_spread:K.lookup f__law_spread=some ⟨oc__law_spread,od__law_spread,.func (PySem.W.fnOf "_law_spread" "_law_spread" (defArgs A1) (defBody A1) (defScope A1) .none kV__law_spread dc__law_spread pm__law_spread an__law_spread cd__law_spread ct__law_spread),sl__law_spread⟩)
  (o__law_spread:PySem.W.codeIn K cd__law_spread "_law_spread" = true)
  (k__law_spread:PySem.W.keepIn K (.ref f__law_spread)=true)
  (a__law_row:PySem.W.nsIn K mainGlobals "_law_row" = some (some (.ref f__law_row)))
  (l__law_row:K.lookup f__law_row=some ⟨oc__law_row,od__law_row,.func (PySem.W.fnOf "_law_row" "_law_row" (defArgs B0) (defBody B0) (defScope B0) .none kV__law_row dc__law_row pm__law_row an__law_row cd__law_row ct__law_row),sl__law_row⟩)
  (o__law_row:PySem.W.codeIn K cd__law_row "_law_row" = true)
  (k__law_row:PySem.W.keepIn K (.ref f__law_row)=true)
  (a__law_above:PySem.W.nsIn K mainGlobals "_law_above" = some (some (.ref f__law_above)))
  (l__law_above:K.lookup f__law_above=some ⟨oc__law_above,od__law_above,.func (PySem.W.fnOf "_law_above" "_law_above" (defArgs Bb) (defBody Bb) (defScope Bb) .none kV__law_above dc__law_above pm__law_above an__law_above cd__law_above ct__law_above),sl__law_above⟩)
  (o__law_above:PySem.W.codeIn K cd__law_above "_law_above" = true)
  (k__law_above:PySem.W.keepIn K (.ref f__law_above)=true)
  (a__law_rows:PySem.W.nsIn K mainGlobals "_law_rows" = some (some (.ref f__law_rows)))
  (l__law_rows:K.lookup f__law_rows=some ⟨oc__law_rows,od__law_rows,.func (PySem.W.fnOf "_law_rows" "_law_rows" (defArgs BC) (defBody BC) (defScope BC) .none kV__law_rows dc__law_rows pm__law_rows an__law_rows cd__law_rows ct__law_rows),sl__law_rows⟩)
  (o__law_rows:PySem.W.codeIn K cd__law_rows "_law_rows" = true)
  (k__law_rows:PySem.W.keepIn K (.ref f__law_rows)=true)
  (a_row_of:PySem.W.nsIn K mainGlobals "row_of" = some (some (.ref f_row_of)))
  (l_row_of:K.lookup f_row_of=some ⟨oc_row_of,od_row_of,.func (PySem.W.fnOf "row_of" "row_of" (defArgs CM) (defBody CM) (defScope CM) .none kV_row_of dc_row_of pm_row_of an_row_of cd_row_of ct_row_of),sl_row_of⟩)
  (o_row_of:PySem.W.codeIn K cd_row_of "row_of" = true)
  (k_row_of:PySem.W.keepIn K (.ref f_row_of)=true)
  (a_within:PySem.W.nsIn K mainGlobals "within" = some (some (.ref f_within)))
  (l_within:K.lookup f_within=some ⟨oc_within,od_within,.func (PySem.W.fnOf "within" "within" (defArgs CL) (defBody CL) (defScope CL) .none kV_within dc_within pm_within an_within cd_within ct_within),sl_within⟩)
  (o_within:PySem.W.codeIn K cd_within "within" = true)
  (k_within:PySem.W.keepIn K (.ref f_within)=true)
  (a_has_below:PySem.W.nsIn K mainGlobals "has_below" = some (some (.ref f_has_below)))
  (l_has_below:K.lookup f_has_below=some ⟨oc_has_below,od_has_below,.func (PySem.W.fnOf "has_below" "has_below" (defArgs BE) (defBody BE) (defScope BE) .none kV_has_below dc_has_below pm_has_below an_has_below cd_has_below ct_has_below),sl_has_below⟩)
  (o_has_below:PySem.W.codeIn K cd_has_below "has_below" = true)
  (k_has_below:PySem.W.keepIn K (.ref f_has_below)=true)
  (a_lowest:PySem.W.nsIn K mainGlobals "lowest" = some (some (.ref f_lowest)))
  (l_lowest:K.lookup f_lowest=some ⟨oc_lowest,od_lowest,.func (PySem.W.fnOf "lowest" "lowest" (defArgs CB) (defBody CB) (defScope CB) .none kV_lowest dc_lowest pm_lowest an_lowest cd_lowest ct_lowest),sl_lowest⟩)
  (o_lowest:PySem.W.codeIn K cd_lowest "lowest" = true)
  (k_lowest:PySem.W.keepIn K (.ref f_lowest)=true)
  (a_normal:PySem.W.nsIn K mainGlobals "normal" = some (some (.ref f_normal)))
  (l_normal:K.lookup f_normal=some ⟨oc_normal,od_normal,.func (PySem.W.fnOf "normal" "normal" (defArgs Cz) (defBody Cz) (defScope Cz) .none kV_normal dc_normal pm_normal an_normal cd_normal ct_normal),sl_normal⟩)
  (o_normal:PySem.W.codeIn K cd_normal "normal" = true)
  (k_normal:PySem.W.keepIn K (.ref f_normal)=true)
  (a_need_rows:PySem.W.nsIn K mainGlobals "need_rows" = some (some (.ref f_need_rows)))
  (l_need_rows:K.lookup f_need_rows=some ⟨oc_need_rows,od_need_rows,.func (PySem.W.fnOf "need_rows" "need_rows" (defArgs BI) (defBody BI) (defScope BI) .none kV_need_rows dc_need_rows pm_need_rows an_need_rows cd_need_rows ct_need_rows),sl_need_rows⟩)
  (o_need_rows:PySem.W.codeIn K cd_need_rows "need_rows" = true)
  (k_need_rows:PySem.W.keepIn K (.ref f_need_rows)=true)
  (a_least_rows:PySem.W.nsIn K mainGlobals "least_rows" = some (some (.ref f_least_rows)))
  (l_least_rows:K.lookup f_least_rows=some ⟨oc_least_rows,od_least_rows,.func (PySem.W.fnOf "least_rows" "least_rows" (defArgs Bg) (defBody Bg) (defScope Bg) .none kV_least_rows dc_least_rows pm_least_rows an_least_rows cd_least_rows ct_least_rows),sl_least_rows⟩)
  (o_least_rows:PySem.W.codeIn K cd_least_rows "least_rows" = true)
  (k_least_rows:PySem.W.keepIn K (.ref f_least_rows)=true)
  (a__law_refuses:PySem.W.nsIn K mainGlobals "_law_refuses" = some (some (.ref f__law_refuses)))
  (l__law_refuses:K.lookup f__law_refuses=some ⟨oc__law_refuses,od__law_refuses,.func (PySem.W.fnOf "_law_refuses" "_law_refuses" (defArgs AE) (defBody AE) (defScope AE) .none kV__law_refuses dc__law_refuses pm__law_refuses an__law_refuses cd__law_refuses ct__law_refuses),sl__law_refuses⟩)
  (o__law_refuses:PySem.W.codeIn K cd__law_refuses "_law_refuses" = true)
  (k__law_refuses:PySem.W.keepIn K (.ref f__law_refuses)=true)
  (a__law_bent:PySem.W.nsIn K mainGlobals "_law_bent" = some (some (.ref f__law_bent)))
  (l__law_bent:K.lookup f__law_bent=some ⟨oc__law_bent,od__law_bent,.func (PySem.W.fnOf "_law_bent" "_law_bent" (defArgs Bo) (defBody Bo) (defScope Bo) .none kV__law_bent dc__law_bent pm__law_bent an__law_bent cd__law_bent ct__law_bent),sl__law_bent⟩)
  (o__law_bent:PySem.W.codeIn K cd__law_bent "_law_bent" = true)
  (k__law_bent:PySem.W.keepIn K (.ref f__law_bent)=true)
  (a__law_integer:PySem.W.nsIn K mainGlobals "_law_integer" = some (some (.ref f__law_integer)))
  (l__law_integer:K.lookup f__law_integer=some ⟨oc__law_integer,od__law_integer,.func (PySem.W.fnOf "_law_integer" "_law_integer" (defArgs AV) (defBody AV) (defScope AV) .none kV__law_integer dc__law_integer pm__law_integer an__law_integer cd__law_integer ct__law_integer),sl__law_integer⟩)
  (o__law_integer:PySem.W.codeIn K cd__law_integer "_law_integer" = true)
  (k__law_integer:PySem.W.keepIn K (.ref f__law_integer)=true)
  (a__law_form:PySem.W.nsIn K mainGlobals "_law_form" = some (some (.ref f__law_form)))
  (l__law_form:K.lookup f__law_form=some ⟨oc__law_form,od__law_form,.func (PySem.W.fnOf "_law_form" "_law_form" (defArgs BH) (defBody BH) (defScope BH) .none kV__law_form dc__law_form pm__law_form an__law_form cd__law_form ct__law_form),sl__law_form⟩)
  (o__law_form:PySem.W.codeIn K cd__law_form "_law_form" = true)
  (k__law_form:PySem.W.keepIn K (.ref f__law_form)=true)
  (a__law_row_value:PySem.W.nsIn K mainGlobals "_law_row_value" = some (some (.ref f__law_row_value)))
  (l__law_row_value:K.lookup f__law_row_value=some ⟨oc__law_row_value,od__law_row_value,.func (PySem.W.fnOf "_law_row_value" "_law_row_value" (defArgs AA) (defBody AA) (defScope AA) .none kV__law_row_value dc__law_row_value pm__law_row_value an__law_row_value cd__law_row_value ct__law_row_value),sl__law_row_value⟩)
  (o__law_row_value:PySem.W.codeIn K cd__law_row_value "_law_row_value" = true)
  (k__law_row_value:PySem.W.keepIn K (.ref f__law_row_value)=true)
  (a__law_value:PySem.W.nsIn K mainGlobals "_law_value" = some (some (.ref f__law_value)))
  (l__law_value:K.lookup f__law_value=some ⟨oc__law_value,od__law_value,.func (PySem.W.fnOf "_law_value" "_law_value" (defArgs A2) (defBody A2) (defScope A2) .none kV__law_value dc__law_value pm__law_value an__law_value cd__law_value ct__law_value),sl__law_value⟩)
  (o__law_value:PySem.W.codeIn K cd__law_value "_law_value" = true)
  (k__law_value:PySem.W.keepIn K (.ref f__law_value)=true)
  (a__law_far:PySem.W.nsIn K mainGlobals "_law_far" = some (some (.ref f__law_far)))
  (l__law_far:K.lookup f__law_far=some ⟨oc__law_far,od__law_far,.func (PySem.W.fnOf "_law_far" "_law_far" (defArgs BM) (defBody BM) (defScope BM) .none kV__law_far dc__law_far pm__law_far an__law_far cd__law_far ct__law_far),sl__law_far⟩)
  (o__law_far:PySem.W.codeIn K cd__law_far "_law_far" = true)
  (k__law_far:PySem.W.keepIn K (.ref f__law_far)=true)
  (a__law_point:PySem.W.nsIn K mainGlobals "_law_point" = some (some (.ref f__law_point)))
  (l__law_point:K.lookup f__law_point=some ⟨oc__law_point,od__law_point,.func (PySem.W.fnOf "_law_point" "_law_point" (defArgs Be) (defBody Be) (defScope Be) .none kV__law_point dc__law_point pm__law_point an__law_point cd__law_point ct__law_point),sl__law_point⟩)
  (o__law_point:PySem.W.codeIn K cd__law_point "_law_point" = true)
  (k__law_point:PySem.W.keepIn K (.ref f__law_point)=true)
  (a__law_agree:PySem.W.nsIn K mainGlobals "_law_agree" = some (some (.ref f__law_agree)))
  (l__law_agree:K.lookup f__law_agree=some ⟨oc__law_agree,od__law_agree,.func (PySem.W.fnOf "_law_agree" "_law_agree" (defArgs A8) (defBody A8) (defScope A8) .none kV__law_agree dc__law_agree pm__law_agree an__law_agree cd__law_agree ct__law_agree),sl__law_agree⟩)
  (o__law_agree:PySem.W.codeIn K cd__law_agree "_law_agree" = true)
  (k__law_agree:PySem.W.keepIn K (.ref f__law_agree)=true)
  (a__law_turned:PySem.W.nsIn K mainGlobals "_law_turned" = some (some (.ref f__law_turned)))
  (l__law_turned:K.lookup f__law_turned=some ⟨oc__law_turned,od__law_turned,.func (PySem.W.fnOf "_law_turned" "_law_turned" (defArgs AZ) (defBody AZ) (defScope AZ) .none kV__law_turned dc__law_turned pm__law_turned an__law_turned cd__law_turned ct__law_turned),sl__law_turned⟩)
  (o__law_turned:PySem.W.codeIn K cd__law_turned "_law_turned" = true)
  (k__law_turned:PySem.W.keepIn K (.ref f__law_turned)=true)
  (a__law_below:PySem.W.nsIn K mainGlobals "_law_below" = some (some (.ref f__law_below)))
  (l__law_below:K.lookup f__law_below=some ⟨oc__law_below,od__law_below,.func (PySem.W.fnOf "_law_below" "_law_below" (defArgs A9) (defBody A9) (defScope A9) .none kV__law_below dc__law_below pm__law_below an__law_below cd__law_below ct__law_below),sl__law_below⟩)
  (o__law_below:PySem.W.codeIn K cd__law_below "_law_below" = true)
  (k__law_below:PySem.W.keepIn K (.ref f__law_below)=true)
  (a__law_flat:PySem.W.nsIn K mainGlobals "_law_flat" = some (some (.ref f__law_flat)))
  (l__law_flat:K.lookup f__law_flat=some ⟨oc__law_flat,od__law_flat,.func (PySem.W.fnOf "_law_flat" "_law_flat" (defArgs BJ) (defBody BJ) (defScope BJ) .none kV__law_flat dc__law_flat pm__law_flat an__law_flat cd__law_flat ct__law_flat),sl__law_flat⟩)
  (o__law_flat:PySem.W.codeIn K cd__law_flat "_law_flat" = true)
  (k__law_flat:PySem.W.keepIn K (.ref f__law_flat)=true)
  (a__law_normal:PySem.W.nsIn K mainGlobals "_law_normal" = some (some (.ref f__law_normal)))
  (l__law_normal:K.lookup f__law_normal=some ⟨oc__law_normal,od__law_normal,.func (PySem.W.fnOf "_law_normal" "_law_normal" (defArgs AM) (defBody AM) (defScope AM) .none kV__law_normal dc__law_normal pm__law_normal an__law_normal cd__law_normal ct__law_normal),sl__law_normal⟩)
  (o__law_normal:PySem.W.codeIn K cd__law_normal "_law_normal" = true)
  (k__law_normal:PySem.W.keepIn K (.ref f__law_normal)=true)
  (a__law_told:PySem.W.nsIn K mainGlobals "_law_told" = some (some (.ref f__law_told)))
  (l__law_told:K.lookup f__law_told=some ⟨oc__law_told,od__law_told,.func (PySem.W.fnOf "_law_told" "_law_told" (defArgs AY) (defBody AY) (defScope AY) .none kV__law_told dc__law_told pm__law_told an__law_told cd__law_told ct__law_told),sl__law_told⟩)
  (o__law_told:PySem.W.codeIn K cd__law_told "_law_told" = true)
  (k__law_told:PySem.W.keepIn K (.ref f__law_told)=true)
  (a__law_good:PySem.W.nsIn K mainGlobals "_law_good" = some (some (.ref f__law_good)))
  (l__law_good:K.lookup f__law_good=some ⟨oc__law_good,od__law_good,.func (PySem.W.fnOf "_law_good" "_law_good" (defArgs Bm) (defBody Bm) (defScope Bm) .none kV__law_good dc__law_good pm__law_good an__law_good cd__law_good ct__law_good),sl__law_good⟩)
  (o__law_good:PySem.W.codeIn K cd__law_good "_law_good" = true)
  (k__law_good:PySem.W.keepIn K (.ref f__law_good)=true)
  (a_law:PySem.W.nsIn K mainGlobals "law" = some (some (.ref f_law)))
  (l_law:K.lookup f_law=some ⟨oc_law,od_law,.func (PySem.W.fnOf "law" "law" (defArgs Dc) (defBody Dc) (defScope Dc) .none kV_law dc_law pm_law an_law cd_law ct_law),sl_law⟩)
  (o_law:PySem.W.codeIn K cd_law "law" = true)
  (k_law:PySem.W.keepIn K (.ref f_law)=true)
  (hmain:∀ (base:Heap) (cs:Cs) (fa:Addr) (fd:FuncData),Tx PySem.Challenge.pw_bidehall_k13_normal_form_of_rows w K mg base cs→FunD K "law" "law" (defArgs Dc) (defBody Dc) (defScope Dc) [] [] fa fd→FnOk PySem.Challenge.pw_bidehall_k13_normal_form_of_rows w K mg base (L2N.CX PySem.Challenge.pw_bidehall_k13_normal_form_of_rows w) 8 fa fd ["_law_script"] (M4 K)):
  ∃ fd:FuncData,(∀ (s:Shared) (v:Value),BindsTo s fd ⟨[v],[]⟩ [("_law_script",v)])∧∀ base:Heap,K.In base→base.Ns mainGlobals mg→FnOk PySem.Challenge.pw_bidehall_k13_normal_form_of_rows w K mg base (L2N.CX PySem.Challenge.pw_bidehall_k13_normal_form_of_rows w) 8 fa fd ["_law_script"] (M4 K):=by
 have e:=hfa.symm.trans (PySem.W.mg_of X G a_law)
 cases e
 have X_EmptyForm:PySem.FX.XTxt PySem.Challenge.pw_bidehall_k13_normal_form_of_rows K mg c_EmptyForm fi_EmptyForm cc_EmptyForm cda_EmptyForm "EmptyForm.__init__" (defArgs C6) (defBody C6) (defScope C6):=
  {cls:=⟨_,_,_,_,[.ref c_Refused,.ref c_HouseError,.type "ValueError",.type "Exception",.type "BaseException",.type "object"],_,_,_,_,_,_,_,_,_,_,xl_EmptyForm,by rfl⟩,sa:=sa_EmptyForm,iC:=ic_EmptyForm,tI:=ti_EmptyForm,kC:=kc_EmptyForm,exC:=ex_EmptyForm,exVE:=ev_EmptyForm,tyC:=ty_EmptyForm,sub:=su_EmptyForm,supI:=si_EmptyForm,any:=any,mgS:=PySem.W.mg_none_of X G zsup,cell:=⟨_,_,_,ce_EmptyForm⟩,code:=⟨_,_,_,_,_,_,co_EmptyForm,cs_EmptyForm,cf_EmptyForm⟩,
   top:=by decide +kernel,fn:=⟨_,_,_,_,_,_,_,_,lf_EmptyForm,cd_EmptyForm⟩ }
 have M_EmptyForm:∀ base,PySem.FX.XMk PySem.Challenge.pw_bidehall_k13_normal_form_of_rows w K mg base c_EmptyForm BA El:=fun base=>
  PySem.FX.mk0 X_EmptyForm rfl rfl (fun s x kV doc pm an ct=>.of_eq rfl) (by decide +kernel) rfl rfl rfl rfl rfl rfl (fun L=>⟨rfl,rfl,⟨_,rfl⟩⟩) (fun L x=>PySem.FX.Sy)
 have TT:∀ base,Tx PySem.Challenge.pw_bidehall_k13_normal_form_of_rows w K mg base ⟨c_EmptyForm,c_NoName,c_NoAnswer,c_Unfit,c_HouseError,c_Refused⟩:=fun base=>
  {n_ValueError:=PySem.W.mg_none_of X G z_ValueError,
   n_abs:=PySem.W.mg_none_of X G z_abs,
   n_any:=PySem.W.mg_none_of X G z_any,
   n_bool:=PySem.W.mg_none_of X G z_bool,
   n_dict:=PySem.W.mg_none_of X G z_dict,
   n_int:=PySem.W.mg_none_of X G z_int,
   n_isinstance:=PySem.W.mg_none_of X G z_isinstance,
   n_len:=PySem.W.mg_none_of X G z_len,
   n_list:=PySem.W.mg_none_of X G z_list,
   n_max:=PySem.W.mg_none_of X G z_max,
   n_min:=PySem.W.mg_none_of X G z_min,
   n_range:=PySem.W.mg_none_of X G z_range,
   n_sorted:=PySem.W.mg_none_of X G z_sorted,
   n_str:=PySem.W.mg_none_of X G z_str,
   n_sum:=PySem.W.mg_none_of X G z_sum,
   n_tuple:=PySem.W.mg_none_of X G z_tuple,
   Bk:=PySem.W.mg_of X G a_EmptyForm,
   g_NoName:=PySem.W.mg_of X G a_NoName,
   g_NoAnswer:=PySem.W.mg_of X G a_NoAnswer,
   g_Unfit:=PySem.W.mg_of X G a_Unfit,
   g_HouseError:=PySem.W.mg_of X G a_HouseError,
   g_Refused:=PySem.W.mg_of X G a_Refused,
   m_EmptyForm:=M_EmptyForm base,
   k_EmptyForm:=kc_EmptyForm,
   e_EmptyForm:=ex_EmptyForm,
   t_EmptyForm:=ty_EmptyForm,
   x_EmptyForm_EmptyForm:=UA cb_EmptyForm ci_EmptyForm ct_EmptyForm sb_EmptyForm_EmptyForm,
   x_EmptyForm_HouseError:=UA cb_HouseError ci_HouseError ct_HouseError sb_EmptyForm_HouseError,
   i_EmptyForm_Refused:=KL ne_EmptyForm_Refused ci_Refused ct_Refused sb_EmptyForm_Refused,
   i_EmptyForm_HouseError:=KL ne_EmptyForm_HouseError ci_HouseError ct_HouseError sb_EmptyForm_HouseError,
   i_EmptyForm_ValueError:=V7 (by decide +kernel) sb_EmptyForm_ValueError,
   i_EmptyForm_Unfit:=KL ne_EmptyForm_Unfit ci_Unfit ct_Unfit sb_EmptyForm_Unfit,
   i_EmptyForm_NoAnswer:=KL ne_EmptyForm_NoAnswer ci_NoAnswer ct_NoAnswer sb_EmptyForm_NoAnswer,
   i_EmptyForm_NoName:=KL ne_EmptyForm_NoName ci_NoName ct_NoName sb_EmptyForm_NoName,
   xc:=fun C hC=>by
     have e:=List.mem_singleton.mp hC
     subst e
     exact ⟨hg_EmptyForm,hk_EmptyForm,ex_EmptyForm,hd_EmptyForm,ha_EmptyForm,hn,ht,ho_EmptyForm⟩,
   F__law_box:=⟨f__law_box,_,⟨⟨_,_,_,_,_,_,_,_,_,_,rfl,l__law_box,o__law_box,.inl ⟨rfl,rfl⟩,.inl rfl⟩,k__law_box⟩,PySem.W.mg_of X G a__law_box⟩,
   F__law_take:=⟨f__law_take,_,⟨⟨_,_,_,_,_,_,_,_,_,_,rfl,l__law_take,o__law_take,.inl ⟨rfl,rfl⟩,.inl rfl⟩,k__law_take⟩,PySem.W.mg_of X G a__law_take⟩,
   F__law_fresh:=⟨f__law_fresh,_,⟨⟨_,_,_,_,_,_,_,_,_,_,rfl,l__law_fresh,o__law_fresh,.inl ⟨rfl,rfl⟩,.inl rfl⟩,k__law_fresh⟩,PySem.W.mg_of X G a__law_fresh⟩,
   F__law_word:=⟨f__law_word,_,⟨⟨_,_,_,_,_,_,_,_,_,_,rfl,l__law_word,o__law_word,.inl ⟨rfl,rfl⟩,.inl rfl⟩,k__law_word⟩,PySem.W.mg_of X G a__law_word⟩,
   F__law_names:=⟨f__law_names,_,⟨⟨_,_,_,_,_,_,_,_,_,_,rfl,l__law_names,o__law_names,.inl ⟨rfl,rfl⟩,.inl rfl⟩,k__law_names⟩,PySem.W.mg_of X G a__law_names⟩,
   F__law_spread:=⟨f__law_spread,_,⟨⟨_,_,_,_,_,_,_,_,_,_,rfl,l__law_spread,o__law_spread,.inl ⟨rfl,rfl⟩,.inl rfl⟩,k__law_spread⟩,PySem.W.mg_of X G a__law_spread⟩,
   F__law_row:=⟨f__law_row,_,⟨⟨_,_,_,_,_,_,_,_,_,_,rfl,l__law_row,o__law_row,.inl ⟨rfl,rfl⟩,.inl rfl⟩,k__law_row⟩,PySem.W.mg_of X G a__law_row⟩,
   F__law_above:=⟨f__law_above,_,⟨⟨_,_,_,_,_,_,_,_,_,_,rfl,l__law_above,o__law_above,.inl ⟨rfl,rfl⟩,.inl rfl⟩,k__law_above⟩,PySem.W.mg_of X G a__law_above⟩,
   F__law_rows:=⟨f__law_rows,_,⟨⟨_,_,_,_,_,_,_,_,_,_,rfl,l__law_rows,o__law_rows,.inl ⟨rfl,rfl⟩,.inl rfl⟩,k__law_rows⟩,PySem.W.mg_of X G a__law_rows⟩,
   F_row_of:=⟨f_row_of,_,⟨⟨_,_,_,_,_,_,_,_,_,_,rfl,l_row_of,o_row_of,.inl ⟨rfl,rfl⟩,.inl rfl⟩,k_row_of⟩,PySem.W.mg_of X G a_row_of⟩,
   F_within:=⟨f_within,_,⟨⟨_,_,_,_,_,_,_,_,_,_,rfl,l_within,o_within,.inl ⟨rfl,rfl⟩,.inl rfl⟩,k_within⟩,PySem.W.mg_of X G a_within⟩,
   F_has_below:=⟨f_has_below,_,⟨⟨_,_,_,_,_,_,_,_,_,_,rfl,l_has_below,o_has_below,.inl ⟨rfl,rfl⟩,.inl rfl⟩,k_has_below⟩,PySem.W.mg_of X G a_has_below⟩,
   F_lowest:=⟨f_lowest,_,⟨⟨_,_,_,_,_,_,_,_,_,_,rfl,l_lowest,o_lowest,.inl ⟨rfl,rfl⟩,.inl rfl⟩,k_lowest⟩,PySem.W.mg_of X G a_lowest⟩,
   F_normal:=⟨f_normal,_,⟨⟨_,_,_,_,_,_,_,_,_,_,rfl,l_normal,o_normal,.inl ⟨rfl,rfl⟩,.inl rfl⟩,k_normal⟩,PySem.W.mg_of X G a_normal⟩,
   F_need_rows:=⟨f_need_rows,_,⟨⟨_,_,_,_,_,_,_,_,_,_,rfl,l_need_rows,o_need_rows,.inl ⟨rfl,rfl⟩,.inl rfl⟩,k_need_rows⟩,PySem.W.mg_of X G a_need_rows⟩,
   F_least_rows:=⟨f_least_rows,_,⟨⟨_,_,_,_,_,_,_,_,_,_,rfl,l_least_rows,o_least_rows,.inl ⟨rfl,rfl⟩,.inl rfl⟩,k_least_rows⟩,PySem.W.mg_of X G a_least_rows⟩,
   F__law_refuses:=⟨f__law_refuses,_,⟨⟨_,_,_,_,_,_,_,_,_,_,rfl,l__law_refuses,o__law_refuses,.inl ⟨rfl,rfl⟩,.inl rfl⟩,k__law_refuses⟩,PySem.W.mg_of X G a__law_refuses⟩,
   F__law_bent:=⟨f__law_bent,_,⟨⟨_,_,_,_,_,_,_,_,_,_,rfl,l__law_bent,o__law_bent,.inl ⟨rfl,rfl⟩,.inl rfl⟩,k__law_bent⟩,PySem.W.mg_of X G a__law_bent⟩,
   F__law_integer:=⟨f__law_integer,_,⟨⟨_,_,_,_,_,_,_,_,_,_,rfl,l__law_integer,o__law_integer,.inl ⟨rfl,rfl⟩,.inl rfl⟩,k__law_integer⟩,PySem.W.mg_of X G a__law_integer⟩,
   F__law_form:=⟨f__law_form,_,⟨⟨_,_,_,_,_,_,_,_,_,_,rfl,l__law_form,o__law_form,.inl ⟨rfl,rfl⟩,.inl rfl⟩,k__law_form⟩,PySem.W.mg_of X G a__law_form⟩,
   F__law_row_value:=⟨f__law_row_value,_,⟨⟨_,_,_,_,_,_,_,_,_,_,rfl,l__law_row_value,o__law_row_value,.inl ⟨rfl,rfl⟩,.inl rfl⟩,k__law_row_value⟩,PySem.W.mg_of X G a__law_row_value⟩,
   F__law_value:=⟨f__law_value,_,⟨⟨_,_,_,_,_,_,_,_,_,_,rfl,l__law_value,o__law_value,.inl ⟨rfl,rfl⟩,.inl rfl⟩,k__law_value⟩,PySem.W.mg_of X G a__law_value⟩,
   F__law_far:=⟨f__law_far,_,⟨⟨_,_,_,_,_,_,_,_,_,_,rfl,l__law_far,o__law_far,.inl ⟨rfl,rfl⟩,.inl rfl⟩,k__law_far⟩,PySem.W.mg_of X G a__law_far⟩,
   F__law_point:=⟨f__law_point,_,⟨⟨_,_,_,_,_,_,_,_,_,_,rfl,l__law_point,o__law_point,.inl ⟨rfl,rfl⟩,.inl rfl⟩,k__law_point⟩,PySem.W.mg_of X G a__law_point⟩,
   F__law_agree:=⟨f__law_agree,_,⟨⟨_,_,_,_,_,_,_,_,_,_,rfl,l__law_agree,o__law_agree,.inl ⟨rfl,rfl⟩,.inl rfl⟩,k__law_agree⟩,PySem.W.mg_of X G a__law_agree⟩,
   F__law_turned:=⟨f__law_turned,_,⟨⟨_,_,_,_,_,_,_,_,_,_,rfl,l__law_turned,o__law_turned,.inl ⟨rfl,rfl⟩,.inl rfl⟩,k__law_turned⟩,PySem.W.mg_of X G a__law_turned⟩,
   F__law_below:=⟨f__law_below,_,⟨⟨_,_,_,_,_,_,_,_,_,_,rfl,l__law_below,o__law_below,.inl ⟨rfl,rfl⟩,.inl rfl⟩,k__law_below⟩,PySem.W.mg_of X G a__law_below⟩,
   F__law_flat:=⟨f__law_flat,_,⟨⟨_,_,_,_,_,_,_,_,_,_,rfl,l__law_flat,o__law_flat,.inl ⟨rfl,rfl⟩,.inl rfl⟩,k__law_flat⟩,PySem.W.mg_of X G a__law_flat⟩,
   F__law_normal:=⟨f__law_normal,_,⟨⟨_,_,_,_,_,_,_,_,_,_,rfl,l__law_normal,o__law_normal,.inl ⟨rfl,rfl⟩,.inl rfl⟩,k__law_normal⟩,PySem.W.mg_of X G a__law_normal⟩,
   F__law_told:=⟨f__law_told,_,⟨⟨_,_,_,_,_,_,_,_,_,_,rfl,l__law_told,o__law_told,.inl ⟨rfl,rfl⟩,.inl rfl⟩,k__law_told⟩,PySem.W.mg_of X G a__law_told⟩,
   F__law_good:=⟨f__law_good,_,⟨⟨_,_,_,_,_,_,_,_,_,_,rfl,l__law_good,o__law_good,.inl ⟨rfl,rfl⟩,.inl rfl⟩,k__law_good⟩,PySem.W.mg_of X G a__law_good⟩,
   F_law:=⟨fa,_,⟨⟨_,_,_,_,_,_,_,_,_,_,rfl,l_law,o_law,.inl ⟨rfl,rfl⟩,.inl rfl⟩,k_law⟩,PySem.W.mg_of X G a_law⟩ }
 exact ⟨PySem.W.fnOf "law" "law" (defArgs Dc) (defBody Dc) (defScope Dc) .none kV_law dc_law pm_law an_law cd_law ct_law,fun s v=>.of_eq rfl,fun base _ _=>
  hmain base ⟨c_EmptyForm,c_NoName,c_NoAnswer,c_Unfit,c_HouseError,c_Refused⟩ _ _ (TT base) ⟨⟨_,_,_,_,_,_,_,_,_,_,rfl,l_law,o_law,.inl ⟨rfl,rfl⟩,.inl rfl⟩,k_law⟩⟩
end Lk13
def PySem.W.Fast.tw10329298348686858174:Unit:=()
def PySem.W.Fast.tw15183261995298494813:Unit:=()
def PySem.W.Fast.tw1783979840730325596:Unit:=()
def PySem.W.Fast.tw3998695099615409275:Unit:=()
def PySem.W.Fast.tw15851055751051292185:Unit:=()
def PySem.W.Fast.tw3338852319652888468:Unit:=()
def PySem.W.Fast.tw2101212101553012049:Unit:=()
def PySem.W.Fast.tw11411400361788069646:Unit:=()
def PySem.W.Fast.tw14932268240284192171:Unit:=()
def PySem.W.Fast.tw18246987542566886186:Unit:=()
def PySem.W.Fast.tw16122613827633352938:Unit:=()
def PySem.W.Fast.tw14056155935585475689:Unit:=()
def PySem.W.Fast.tw2563457584892386727:Unit:=()
def PySem.W.Fast.tw11768996390402438950:Unit:=()
def PySem.W.Fast.Oc:Unit:=()
def PySem.W.Fast.NG:Unit:=()
def PySem.W.Fast.OD:Unit:=()
def PySem.W.Fast.OC:Unit:=()
def PySem.W.Fast.N5:Unit:=()
def PySem.W.Fast.Oz:Unit:=()
def PySem.W.Fast.OB:Unit:=()
def PySem.W.Fast.Ox:Unit:=()
def PySem.W.Fast.NW:Unit:=()
def PySem.W.Fast.N1:Unit:=()
def PySem.W.Fast.Nv:Unit:=()
def PySem.W.Fast.Nt:Unit:=()
def PySem.W.Fast.OA:Unit:=()
open PySem PyProof.Rows PySem.W PySem.Calls in
def Lk13.HM:Prop:=∀ (w:World) (K:PySem.W.Frag) (mg:PySem.Str→Option Value) (base:Heap) (cs:Lk13.Cs) (fa:Addr) (fd:FuncData),Lk13.Tx PySem.Challenge.pw_bidehall_k13_normal_form_of_rows w K mg base cs→L2.FunD K "law" "law" (L2.defArgs Lk13.Dc) (L2.defBody Lk13.Dc) (L2.defScope Lk13.Dc) [] [] fa fd→L2.FnOk PySem.Challenge.pw_bidehall_k13_normal_form_of_rows w K mg base (L2N.CX PySem.Challenge.pw_bidehall_k13_normal_form_of_rows w) 8 fa fd ["_law_script"] (FD.M4 K)
class Lk13.HasHM:Prop where
 out:Lk13.HM
namespace LkH13
open PySem PyProof.Rows PySem.W PySem.Calls in
theorem PySem.W.holds_open[hm:Lk13.HasHM]{r:OpenRow}{q:Program}{loose:List PySem.Str}{α:Type}{N:Nat}
  {Xt:Shared→Bool} {XP:(PySem.Str→Option Value)→Heap→Prop}
  {Yf:Shared→α} {Ya:World→α} {YP:World→Heap→Prop}
  {d:DefRec} {kwd:List (PySem.Str × PySem.Expr)}
  (b1:LeftO r.prog q loose Xt Yf Ya N)
  (b2:∀ w s,Yf s=Ya w→YP w s.heap)
  (b3:∀ w g g',YP w g→(∀ a x,g.get? a=some x→g'.get? a=some x)→YP w g')
  (b4:∀ s,Xt s=true→XP (s.heap.nsMap mainGlobals) s.heap)
  (b5:∀ m g g',XP m g→(∀ a x,g.get? a=some x→g'.get? a=some x)→XP m g')
  (b6:defOf q r.name=some (d,kwd))
  (b7:r.prog.theDef r.name=some (d.params,d.body,d.scope))
  (b8:kwWritten? d.params.kwonlyargs d.params.kw_defaults=some kwd)
  (b9:∀ s,Xt s=true→RecFacts r.records s.heap)
  (b10:(!r.writes || r.records.isEmpty)=true)
  (b11:r.wellSaid=true)
  (b12:(chainsOk q && opensWell r.prog && (frees r.toRowW && r.within.isEmpty))=true)
  (b13:r.prog.bare)
  (b14:r.toRowW.promised)
  (call:Lk13.HM→WalkO q loose XP YP r.toRowW d kwd fun f vs=>PySem.call f vs):r.Holds:=
 _root_.PySem.W.holds_open b1 b2 b3 b4 b5 b6 b7 b8 b9 b10 b11 b12 b13 b14 (call hm.out)
open PySem PySem.W PyProof.Rows in
set_option maxRecDepth 100000 in
set_option maxHeartbeats 0 in
theorem headed[hm:Lk13.HasHM]:PySem.Challenge.rw_bidehall_k13_normal_form_of_rows.Holds:=by
 w_on; o_law; k_head; (case hw=>w_witness2)
 intro hmain
 k_fill
 refine FD.Vd (l:=PySem.Challenge.rw_bidehall_k13_normal_form_of_rows) (k:=8) (x:="_law_script") rfl rfl ⟨rfl,by decide,by decide⟩ (fun w h Y=>PySem.W.kIn_of Y) ?F
 case F=>
  intro w mg fa h KX G hmg
  refine' Lk13.all_mk KX G hmg ?z_ValueError ?z_abs ?z_any ?z_bool ?z_dict ?z_int ?z_isinstance ?z_len ?z_list ?z_max ?z_min ?z_range ?z_sorted ?z_str ?z_sum ?z_tuple ?a_EmptyForm ?a_NoName ?a_NoAnswer ?a_Unfit ?a_HouseError ?a_Refused ?xl_EmptyForm ?sa_EmptyForm ?ic_EmptyForm ?ti_EmptyForm ?kc_EmptyForm ?ex_EmptyForm ?ev_EmptyForm ?ty_EmptyForm ?su_EmptyForm ?si_EmptyForm ?lf_EmptyForm ?cd_EmptyForm ?ce_EmptyForm ?co_EmptyForm ?cs_EmptyForm ?cf_EmptyForm ?hg_EmptyForm ?hk_EmptyForm ?hd_EmptyForm ?ha_EmptyForm ?ho_EmptyForm ?sb_EmptyForm_EmptyForm ?sb_EmptyForm_HouseError ?ne_EmptyForm_HouseError ?sb_EmptyForm_Refused ?ne_EmptyForm_Refused ?sb_EmptyForm_ValueError ?sb_EmptyForm_Unfit ?ne_EmptyForm_Unfit ?sb_EmptyForm_NoAnswer ?ne_EmptyForm_NoAnswer ?sb_EmptyForm_NoName ?ne_EmptyForm_NoName ?ci_EmptyForm ?ct_EmptyForm ?cb_EmptyForm ?ci_HouseError ?ct_HouseError ?cb_HouseError ?ci_Refused ?ct_Refused ?cb_Refused ?ci_Unfit ?ct_Unfit ?cb_Unfit ?ci_NoAnswer ?ct_NoAnswer ?cb_NoAnswer ?ci_NoName ?ct_NoName ?cb_NoName ?any ?zsup ?hn ?ht ?a__law_box ?l__law_box ?o__law_box ?k__law_box ?a__law_take ?l__law_take ?o__law_take ?k__law_take ?a__law_fresh ?l__law_fresh ?o__law_fresh ?k__law_fresh ?a__law_word ?l__law_word ?o__law_word ?k__law_word ?a__law_names ?l__law_names ?o__law_names ?k__law_names ?a__law_spread ?l__law_spread ?o__law_spread ?k__law_spread ?a__law_row ?l__law_row ?o__law_row ?k__law_row ?a__law_above ?l__law_above ?o__law_above ?k__law_above ?a__law_rows ?l__law_rows ?o__law_rows ?k__law_rows ?a_row_of ?l_row_of ?o_row_of ?k_row_of ?a_within ?l_within ?o_within ?k_within ?a_has_below ?l_has_below ?o_has_below ?k_has_below ?a_lowest ?l_lowest ?o_lowest ?k_lowest ?a_normal ?l_normal ?o_normal ?k_normal ?a_need_rows ?l_need_rows ?o_need_rows ?k_need_rows ?a_least_rows ?l_least_rows ?o_least_rows ?k_least_rows ?a__law_refuses ?l__law_refuses ?o__law_refuses ?k__law_refuses ?a__law_bent ?l__law_bent ?o__law_bent ?k__law_bent ?a__law_integer ?l__law_integer ?o__law_integer ?k__law_integer ?a__law_form ?l__law_form ?o__law_form ?k__law_form ?a__law_row_value ?l__law_row_value ?o__law_row_value ?k__law_row_value ?a__law_value ?l__law_value ?o__law_value ?k__law_value ?a__law_far ?l__law_far ?o__law_far ?k__law_far ?a__law_point ?l__law_point ?o__law_point ?k__law_point ?a__law_agree ?l__law_agree ?o__law_agree ?k__law_agree ?a__law_turned ?l__law_turned ?o__law_turned ?k__law_turned ?a__law_below ?l__law_below ?o__law_below ?k__law_below ?a__law_flat ?l__law_flat ?o__law_flat ?k__law_flat ?a__law_normal ?l__law_normal ?o__law_normal ?k__law_normal ?a__law_told ?l__law_told ?o__law_told ?k__law_told ?a__law_good ?l__law_good ?o__law_good ?k__law_good ?a_law ?l_law ?o_law ?k_law (fun base cs fa fd T F=>hmain _ _ _ base cs fa fd T F)
  (case z_ValueError=>k_is)
  (case z_abs=>k_is)
  (case z_any=>k_is)
  (case z_bool=>k_is)
  (case z_dict=>k_is)
  (case z_int=>k_is)
  (case z_isinstance=>k_is)
  (case z_len=>k_is)
  (case z_list=>k_is)
  (case z_max=>k_is)
  (case z_min=>k_is)
  (case z_range=>k_is)
  (case z_sorted=>k_is)
  (case z_str=>k_is)
  (case z_sum=>k_is)
  (case z_tuple=>k_is)
  (case a_EmptyForm=>k_is)
  (case a_NoName=>k_is)
  (case a_NoAnswer=>k_is)
  (case a_Unfit=>k_is)
  (case a_HouseError=>k_is)
  (case a_Refused=>k_is)
  (case xl_EmptyForm=>k_is)
  (case sa_EmptyForm=>k_is)
  (case ic_EmptyForm=>k_is)
  (case ti_EmptyForm=>k_is)
  (case kc_EmptyForm=>k_is)
  (case ex_EmptyForm=>k_is)
  (case ev_EmptyForm=>k_is)
  (case ty_EmptyForm=>k_is)
  (case su_EmptyForm=>k_is)
  (case si_EmptyForm=>ks_is)
  (case lf_EmptyForm=>k_is)
  (case cd_EmptyForm=>k_is)
  (case ce_EmptyForm=>k_is)
  (case co_EmptyForm=>k_is)
  (case cs_EmptyForm=>rfl)
  (case cf_EmptyForm=>first | rfl | decide +kernel)
  (case hg_EmptyForm=>k_is)
  (case hk_EmptyForm=>k_is)
  (case hd_EmptyForm=>k_is)
  (case ha_EmptyForm=>k_is)
  (case ho_EmptyForm=>k_is)
  (case sb_EmptyForm_EmptyForm=>k_is)
  (case sb_EmptyForm_HouseError=>k_is)
  (case ne_EmptyForm_HouseError=>first | rfl | decide +kernel)
  (case sb_EmptyForm_Refused=>k_is)
  (case ne_EmptyForm_Refused=>first | rfl | decide +kernel)
  (case sb_EmptyForm_ValueError=>k_is)
  (case sb_EmptyForm_Unfit=>k_is)
  (case ne_EmptyForm_Unfit=>first | rfl | decide +kernel)
  (case sb_EmptyForm_NoAnswer=>k_is)
  (case ne_EmptyForm_NoAnswer=>first | rfl | decide +kernel)
  (case sb_EmptyForm_NoName=>k_is)
  (case ne_EmptyForm_NoName=>first | rfl | decide +kernel)
  (case ci_EmptyForm=>k_is)
  (case ct_EmptyForm=>k_is)
  (case cb_EmptyForm=>k_is)
  (case ci_HouseError=>k_is)
  (case ct_HouseError=>k_is)
  (case cb_HouseError=>k_is)
  (case ci_Refused=>k_is)
  (case ct_Refused=>k_is)
  (case cb_Refused=>k_is)
  (case ci_Unfit=>k_is)
  (case ct_Unfit=>k_is)
  (case cb_Unfit=>k_is)
  (case ci_NoAnswer=>k_is)
  (case ct_NoAnswer=>k_is)
  (case cb_NoAnswer=>k_is)
  (case ci_NoName=>k_is)
  (case ct_NoName=>k_is)
  (case cb_NoName=>k_is)
  (case any=>k_is)
  (case zsup=>k_is)
  (case hn=>k_is)
  (case ht=>k_is)
  (case a__law_box=>k_is)
  (case l__law_box=>k_is)
  (case o__law_box=>k_is)
  (case k__law_box=>k_is)
  (case a__law_take=>k_is)
  (case l__law_take=>k_is)
  (case o__law_take=>k_is)
  (case k__law_take=>k_is)
  (case a__law_fresh=>k_is)
  (case l__law_fresh=>k_is)
  (case o__law_fresh=>k_is)
  (case k__law_fresh=>k_is)
  (case a__law_word=>k_is)
  (case l__law_word=>k_is)
  (case o__law_word=>k_is)
  (case k__law_word=>k_is)
  (case a__law_names=>k_is)
  (case l__law_names=>k_is)
  (case o__law_names=>k_is)
  (case k__law_names=>k_is)
  (case a__law_spread=>k_is)
  (case l__law_spread=>k_is)
  (case o__law_spread=>k_is)
  (case k__law_spread=>k_is)
  (case a__law_row=>k_is)
  (case l__law_row=>k_is)
  (case o__law_row=>k_is)
  (case k__law_row=>k_is)
  (case a__law_above=>k_is)
  (case l__law_above=>k_is)
  (case o__law_above=>k_is)
  (case k__law_above=>k_is)
  (case a__law_rows=>k_is)
  (case l__law_rows=>k_is)
  (case o__law_rows=>k_is)
  (case k__law_rows=>k_is)
  (case a_row_of=>k_is)
  (case l_row_of=>k_is)
  (case o_row_of=>k_is)
  (case k_row_of=>k_is)
  (case a_within=>k_is)
  (case l_within=>k_is)
  (case o_within=>k_is)
  (case k_within=>k_is)
  (case a_has_below=>k_is)
  (case l_has_below=>k_is)
  (case o_has_below=>k_is)
  (case k_has_below=>k_is)
  (case a_lowest=>k_is)
  (case l_lowest=>k_is)
  (case o_lowest=>k_is)
  (case k_lowest=>k_is)
  (case a_normal=>k_is)
  (case l_normal=>k_is)
  (case o_normal=>k_is)
  (case k_normal=>k_is)
  (case a_need_rows=>k_is)
  (case l_need_rows=>k_is)
  (case o_need_rows=>k_is)
  (case k_need_rows=>k_is)
  (case a_least_rows=>k_is)
  (case l_least_rows=>k_is)
  (case o_least_rows=>k_is)
  (case k_least_rows=>k_is)
  (case a__law_refuses=>k_is)
  (case l__law_refuses=>k_is)
  (case o__law_refuses=>k_is)
  (case k__law_refuses=>k_is)
  (case a__law_bent=>k_is)
  (case l__law_bent=>k_is)
  (case o__law_bent=>k_is)
  (case k__law_bent=>k_is)
  (case a__law_integer=>k_is)
  (case l__law_integer=>k_is)
  (case o__law_integer=>k_is)
  (case k__law_integer=>k_is)
  (case a__law_form=>k_is)
  (case l__law_form=>k_is)
  (case o__law_form=>k_is)
  (case k__law_form=>k_is)
  (case a__law_row_value=>k_is)
  (case l__law_row_value=>k_is)
  (case o__law_row_value=>k_is)
  (case k__law_row_value=>k_is)
  (case a__law_value=>k_is)
  (case l__law_value=>k_is)
  (case o__law_value=>k_is)
  (case k__law_value=>k_is)
  (case a__law_far=>k_is)
  (case l__law_far=>k_is)
  (case o__law_far=>k_is)
  (case k__law_far=>k_is)
  (case a__law_point=>k_is)
  (case l__law_point=>k_is)
  (case o__law_point=>k_is)
  (case k__law_point=>k_is)
  (case a__law_agree=>k_is)
  (case l__law_agree=>k_is)
  (case o__law_agree=>k_is)
  (case k__law_agree=>k_is)
  (case a__law_turned=>k_is)
  (case l__law_turned=>k_is)
  (case o__law_turned=>k_is)
  (case k__law_turned=>k_is)
  (case a__law_below=>k_is)
  (case l__law_below=>k_is)
  (case o__law_below=>k_is)
  (case k__law_below=>k_is)
  (case a__law_flat=>k_is)
  (case l__law_flat=>k_is)
  (case o__law_flat=>k_is)
  (case k__law_flat=>k_is)
  (case a__law_normal=>k_is)
  (case l__law_normal=>k_is)
  (case o__law_normal=>k_is)
  (case k__law_normal=>k_is)
  (case a__law_told=>k_is)
  (case l__law_told=>k_is)
  (case o__law_told=>k_is)
  (case k__law_told=>k_is)
  (case a__law_good=>k_is)
  (case l__law_good=>k_is)
  (case o__law_good=>k_is)
  (case k__law_good=>k_is)
  (case a_law=>k_is)
  (case l_law=>k_is)
  (case o_law=>k_is)
  (case k_law=>k_is)
end LkH13
namespace FD
open PySem L2 PyProof.Rows PySem.Spec
def obE{α:Type}(o:Option (List Cell))(k:List Cell→XO α):XO α:=match o with
 | some cs=>k cs
 | none=>.bad
def moE(n:Nat)(lk:List Nat)(ρ:Env):MO→XO Dt
 | .ok d cs=>if A7 ρ lk (some d) cs=true then .ok d (ρ.set n (some (.mh cs))) else .bad
 | .exc x cs=>if A7 ρ lk none cs=true then .exc x (ρ.set n (some (.mh cs))) else .bad
 | .bad=>.bad
def opE(o:Option Env):SOut:=match o with
 | some ρ=>.ok .nx ρ
 | none=>.bad
def pE(o:Option (Dt × Env)):XO Dt:=match o with
 | some (d,ρ)=>.ok d ρ
 | none=>.bad
def aj{α:Type}(c:Option Cell)(k:List Dt→Option α):Option α:=match c with
 | some (.lst ds)=>k ds
 | _=>none
def ZK(o:Option (List Cell))(k:List Cell→MO):MO:=match o with
 | some cs=>k cs
 | none=>.bad
def Zp(n:Nat)(o:SOut):MO:=match o with
 | .ok .nx ρ=>ZK (BY n ρ) fun cs=>.ok .non cs
 | .ok (.rt d) ρ=>ZK (BY n ρ) fun cs=>.ok d cs
 | .exc x ρ=>ZK (BY n ρ) fun cs=>.exc x cs
 | _=>.bad
section
variable {α:Type} {ρ:Env} {n i k:Nat} {lk:List Nat} {cs:List Cell} {f fi:Env→XO Dt} {fx fj:Env→Out Dt} {fl:Env→XO (List Dt)} {ft fu:Env→XO Bool} {g h:Env→SOut} {d x:Dt} {ds:List Dt} {C:Addr} {ns:List Str} {z:Int} {e:Exn}
theorem Gj{k:List Cell→XO α}:obE (some cs) k=k cs:=rfl
theorem KH:moE n lk ρ (.ok d cs)=if A7 ρ lk (some d) cs=true then .ok d (ρ.set n (some (.mh cs))) else .bad:=rfl
theorem GJ:opE (some ρ)=.ok .nx ρ:=rfl
theorem Jd:pE (some (d,ρ))=.ok d ρ:=rfl
theorem E9{k:List Dt→Option α}:aj (some (.lst ds)) k=k ds:=rfl
theorem KY:BY 0 (some (.mh cs) :: ρ)=some cs:=rfl
theorem KG{l:Option Lo}:BY (n + 1) (l :: ρ)=BY n ρ:=by
 unfold BY
 rw [List.getElem?_cons_succ]
theorem OI{f:Env→Out α}:xP f ρ=(f ρ).x ρ:=rfl
theorem PB{gg:Dt→Dt→Option Dt}:x2 f fi gg ρ=(f ρ).bind fun a ρ1=>(fi ρ1).bind fun b ρ2=>(DY (gg a b)).x ρ2:=rfl
theorem Lh{gg:Dt→Option Bool}:Zq f gg ρ=(f ρ).bind fun a ρ1=>(DY (gg a)).x ρ1:=rfl
theorem KQ{gg:Dt→Dt→Option Bool}:QH f fi gg ρ=(f ρ).bind fun a ρ1=>(fi ρ1).bind fun b ρ2=>(DY (gg a b)).x ρ2:=rfl
theorem GN:O3 ft ρ=(ft ρ).bind fun b ρ1=>.ok (!b) ρ1:=rfl
theorem Gu:Cy f fl ρ=(f ρ).bind fun d ρ1=>(fl ρ1).bind fun ds ρ2=>.ok (d :: ds) ρ2:=rfl
theorem IK:VT fl ρ=(fl ρ).bind fun ds ρ1=>if ds.length≤16777216 then .ok ds ρ1 else .bad:=rfl
theorem PD{gg:List Dt→Option Dt}:xB gg fl ρ=(fl ρ).bind fun ds ρ1=>(DY (gg ds)).x ρ1:=rfl
theorem Fd{φ:List Dt→List Cell→MO}:Am n φ fl lk ρ=(fl ρ).bind fun ds ρ1=>obE (BY n ρ1) fun cs=>moE n lk ρ1 (φ ds cs):=rfl
theorem HA:WD n fl lk ρ=(fl ρ).bind fun ds ρ1=>obE (BY n ρ1) fun cs=>if (lk.all (EZ ρ1) || Dt.CA ds || (Dt.Sm ds && lk.all (Hr ρ1)))=true then .ok (.ad cs.length) (ρ1.set n (some (.mh (cs ++ [.lst ds])))) else .bad:=rfl
theorem IL:V0 n (.ad k) (.int z) d ρ=(BY n ρ).bind fun cs=>aj (cs[k]?) fun ds=>(ixN ds.length z).map fun j=>ρ.set n (some (.mh (cs.set k (.lst (ds.set j d))))):=rfl
theorem Gz:Fj n fx ρ=(fx ρ).bind fun d=>DY (Uj (BY n ρ) d):=rfl
theorem HB:Uj (some cs) (.ad k)=(cs[k]?).bind Cell.d:=rfl
theorem Cell.P0:Cell.d (.lst ds)=some (.lst ds):=rfl
theorem GH:Az i f lk ρ=xE (f ρ) fun d ρ=>.ok .nx ((AI d lk ρ).set i (some (.sh d))):=rfl
theorem Fo:NV i fl lk ρ=xE (fl ρ) fun ds ρ=>.ok .nx ((Mi ds lk ρ).set i (some (.ol ds))):=rfl
theorem Fi:N3 f ρ=xE (f ρ) fun _ ρ=>.ok .nx ρ:=rfl
theorem Gn:LQ f lk ρ=xE (f ρ) fun d ρ=>.ok (.rt d) (AI d lk ρ):=rfl
theorem IZ:Kf ft g h ρ=xE (ft ρ) fun b ρ=>if b=true then g ρ else h ρ:=rfl
theorem Es:G5 n fx fj f lk ρ=xE (f ρ) fun d ρ1=>F8 (fx (AI d lk ρ1)) (AI d lk ρ1) fun x=>F8 (fj (AI d lk ρ1)) (AI d lk ρ1) fun i=>opE (V0 n x i d (AI d lk ρ1)):=rfl
theorem Ik{fa:Env→Out Dt}{f1 f2:Env→Out (Option Int)}:Qt fa f1 f2 ρ=(fa ρ).bind fun a=>(f1 ρ).bind fun lo=>(f2 ρ).bind fun hi=>DY (RW a lo hi):=rfl
theorem Fp{lo hi:Option Int}:RW (.lst ds) lo hi=some (.lst (cutD ds lo hi)):=rfl
theorem E8{lo hi:Option Int}:RW (.fls ds) lo hi=some (.lst (cutD ds lo hi)):=rfl
theorem Ij{m:Nat}{b:Env→SOut}:runM m b ds cs=Zp m (b (ds.map (fun d=>some (Lo.sh d)) ++ List.replicate (m - ds.length) none ++ [some (.mh cs)])):=rfl
theorem ID:Zp n (.ok (.rt d) ρ)=ZK (BY n ρ) fun cs=>.ok d cs:=rfl
theorem GU{k:List Cell→MO}:ZK (some cs) k=k cs:=rfl
end
end FD
namespace FD
open PySem L2 PyProof.Rows PySem.Spec
section
variable {K:PySem.W.Frag} {S:List Nat} {σ:L2.St} {μ μ':Mu} {H H' H0:Hp} {ρ ρ':Env} {A0:Ad} {lk la lb:List Nat} {W:WX} {d e:Dt} {v:V} {cs cs':List Cell} {n k:Nat} {c:Cell} {a:Addr}
theorem StOk.gvC(s:StOk ⟨K,μ⟩ H0 A0 H ρ σ)(e:ρ[n]? = some (some (.mh cs)))(hc:cs[k]? = some c)(hl:c.live=true)(ha:μ.l[k]? = some a):
  StOk ⟨K,μ⟩ H0 A0 H (ρ.set n (some (.mh (cs.set k .gone)))) σ∧(∀ j b,AH ⟨K,μ⟩ (ρ.set n (some (.mh (cs.set k .gone)))) σ j b→AH ⟨K,μ⟩ ρ σ j b∧b≠a):=by
 have ho:AH ⟨K,μ⟩ ρ σ n a:=⟨_,e,k,c,hc,hl,ha⟩
 have h0:=(s.BW ho).2
 have hi:n < σ.length:=by rw [s.len]; exact (List.getElem?_eq_some_iff.mp e).1
 have hk:k < cs.length:=(List.getElem?_eq_some_iff.mp hc).1
 have hn:n < ρ.length:=(List.getElem?_eq_some_iff.mp e).1
 obtain ⟨nd,hlen,hcs⟩:=s.lo n _ e
 have sp:∀ (j:Nat) (c2:Cell),(cs.set k .gone)[j]? = some c2→c2.live=true→j≠k∧cs[j]? = some c2:=fun j c2 e1 hv=>by
  by_cases hj:k=j
  ·subst hj
   rw [List.getElem?_set_self hk] at e1
   cases e1
   cases hv
  ·rw [List.getElem?_set_ne hj] at e1
   exact ⟨fun z=>hj z.symm,e1⟩
 have own:∀ sv b,Bq ⟨K,μ⟩ (.mh (cs.set k .gone)) sv b→Bq ⟨K,μ⟩ (.mh cs) sv b∧b≠a:=fun sv b ⟨j,c2,e1,hv,e2⟩=>by
  obtain ⟨h1,h2⟩:=sp j c2 e1 hv
  refine ⟨⟨j,c2,h2,hv,e2⟩,fun z=>?_⟩
  subst z
  exact h1 (nd j k _ c2 c h2 hc hv hl e2 ha)
 have q:=StOk.JH (F:=K) (m:=μ) (m':=μ) (H':=H) s n (some (.mh (cs.set k .gone))) σ[n] (Xt.refl _) (.inl rfl) s.same (fun _ _ q _=>q) (fun l e2 b h=>by
  cases e2
  exact .inl ⟨_,e,(by obtain ⟨⟨j,c2,e1,hv,e2⟩,_⟩:=own _ b h; exact ⟨j,c2,e1,hv,e2⟩)⟩) (fun _ _=>⟨cs,e⟩) fun l e2 A' hA=>by
  cases e2
  have hA':∀ b,A' b→Av ⟨K,μ⟩ A0 ρ σ [] b:=fun b z=>(hA b z).elim (fun z=>z.nil) fun z=>.inr ⟨n,(fun q=>nomatch q),_,e,(by obtain ⟨⟨j,c2,e1,hv,e2⟩,_⟩:=own _ b z; exact ⟨j,c2,e1,hv,e2⟩)⟩
  refine ⟨fun j1 j2 b c1 c2 e1 e2 v1 v2 m1 m2=>nd j1 j2 b c1 c2 (sp j1 c1 e1 v1).2 (sp j2 c2 e2 v2).2 v1 v2 m1 m2,by rw [List.length_set]; exact hlen,fun j c2 b e1 e3=>?_⟩
  by_cases hv:c2.live=true
  ·exact (hcs j c2 b (sp j c2 e1 hv).2 e3).gen (Xt.refl _) (fun _ _ _ q=>q) (fun b z=>.inl (hA' b z)) (fun _ o q=>q) (fun _ z=>z)
  ·cases c2 with
   | gone=>exact trivial
   | _=>exact absurd rfl hv
 rw [Bc (List.getElem?_eq_getElem hi)] at q
 refine ⟨q,fun j b ⟨l,f1,f2⟩=>?_⟩
 by_cases hj:n=j
 ·subst hj
  rw [List.getElem?_set_self hn] at f1
  cases f1
  obtain ⟨q1,q2⟩:=own _ b f2
  exact ⟨⟨_,e,q1⟩,q2⟩
 ·rw [List.getElem?_set_ne hj] at f1
  refine ⟨⟨l,f1,f2⟩,fun z=>?_⟩
  subst z
  exact hj (s.ap n j b ho ⟨l,f1,f2⟩)
theorem Ch.gv(hS:n∈S)(o1:∀ j b,AH ⟨K,μ⟩ ρ' σ j b→AH ⟨K,μ⟩ ρ σ j b)(k1:∀ j,j∉S→ρ'[j]? = ρ[j]?):Ch K S σ μ H ρ μ H ρ':=
 ⟨Xt.refl _,fun _ _ e _=>e,k1,fun j a hj h=>.inl ⟨j,hj,o1 j a h⟩,.inl rfl⟩
end
end FD
namespace FD
open PySem L2 PyProof.Rows PySem.Spec
section
variable {X:Cx} {W:WX} {S:List Nat} {p:Pos}
end
theorem Ag.rep{κ:KM}{H:Hp}{A:Ad}{ds:List Dt}{vs:List V}(r:Ag κ H A ds vs):∀ n:Nat,Ag κ H A (List.replicate n ds).flatten (List.replicate n vs).flatten
 | 0=>Ag.nil
 | n + 1=>by
  rw [List.replicate_succ,List.replicate_succ,List.flatten_cons,List.flatten_cons]
  exact Ag.append r (Ag.rep r n)
section
variable {K:PySem.W.Frag} {W:WX} {la lb lk:List Nat}
end
end FD
namespace FD
open PySem L2 PyProof.Rows PySem.Spec
def keyD:Dt→Option Key
 | .int i=>some (.inl i)
 | .str s=>some (.inr s)
 | _=>none
def Iq:Key→Dt
 | .inl i=>.int i
 | .inr s=>.str s
theorem JN{κ:KM}{H:Hp}{A:Ad}{d:Dt}{v:V}{k:Key}(h:keyD d=some k)(r:Rep κ H A d v):v=kV k:=by
 cases d <;> try (cases h; done)
 ·cases h; exact r
 ·cases h; exact r
theorem Lj{κ:KM}{H:Hp}{A:Ad}(k:Key):Rep κ H A (Iq k) (kV k):=by
 cases k <;> rfl
def LF:List Key→List Dt→Key→Dt→List Dt
 | k :: ks,d :: ds,j,x=>(if k=j then x else d) :: LF ks ds j x
 | _,ds,_,_=>ds
instance decKey (j:Key) (ks:List Key):Decidable (j∈ks):=decidable_of_iff (ks.any (fun x=>decide (x=j))=true) (by
 rw [List.any_eq_true]
 exact ⟨fun ⟨x,m,e⟩=>(of_decide_eq_true e) ▸ m,fun h=>⟨j,h,decide_eq_true rfl⟩⟩)
def D7(ks:List Key)(j:Key):List Key:=if j∈ks then ks else ks ++ [j]
def D6(ks:List Key)(ds:List Dt)(j:Key)(x:Dt):List Dt:=if j∈ks then LF ks ds j x else ds ++ [x]
def OG:List Key→List Dt→Key→Option Dt
 | k :: ks,d :: ds,j=>if k=j then some d else OG ks ds j
 | _,_,_=>none
theorem JM{kvs:List (Key × V)}{k:Key}{v:V}:(putK kvs k v).map (·.1)=D7 (kvs.map (·.1)) k:=by
 unfold putK D7
 by_cases h:k∈kvs.map (·.1)
 ·rw [if_pos h,if_pos]
  ·rw [List.map_map]
   refine List.map_congr_left fun kv _=>?_
   simp only [Function.comp]
   split <;> rfl
  ·obtain ⟨kv,m,e⟩:=List.mem_map.mp h
   exact List.any_eq_true.mpr ⟨kv,m,decide_eq_true e⟩
 ·rw [if_neg h,if_neg]
  ·rw [List.map_append]
   rfl
  ·intro z
   obtain ⟨kv,m,e⟩:=List.any_eq_true.mp z
   exact h (List.mem_map.mpr ⟨kv,m,of_decide_eq_true e⟩)
theorem MT{κ:KM}{H:Hp}{A:Ad}{k:Key}{v:V}{x:Dt}(rx:Rep κ H A x v):∀ {kvs:List (Key × V)} {ds:List Dt},Ag κ H A ds (kvs.map (·.2))→Ag κ H A (LF (kvs.map (·.1)) ds k x) ((kvs.map fun kv=>if kv.1=k then (kv.1,v) else kv).map (·.2))
 | [],ds,r=>by
  have:ds=[]:=by
   have:=r.length
   simpa using this.symm
  subst this
  exact Ag.nil
 | kv :: kvs,[],r=>by
  have:=r.length
  simp at this
 | kv :: kvs,d :: ds,r=>by
  unfold Ag at r
  obtain ⟨u,us,e,r1,r2⟩:=r
  rw [List.map_cons] at e
  injection e with e1 e2
  subst e1 e2
  rw [List.map_cons,List.map_cons,List.map_cons]
  unfold LF
  refine Ag.cons ?_ (MT rx r2)
  by_cases h:kv.1=k
  ·rw [if_pos h,if_pos h]; exact rx
  ·rw [if_neg h,if_neg h]; exact r1
theorem Jw{κ:KM}{H:Hp}{A:Ad}{k:Key}{v:V}{x:Dt}{kvs:List (Key × V)}{ds:List Dt}(rx:Rep κ H A x v)(r:Ag κ H A ds (kvs.map (·.2))):Ag κ H A (D6 (kvs.map (·.1)) ds k x) ((putK kvs k v).map (·.2)):=by
 unfold putK D6
 by_cases h:k∈kvs.map (·.1)
 ·rw [if_pos h,if_pos]
  ·exact MT rx r
  ·obtain ⟨kv,m,e⟩:=List.mem_map.mp h
   exact List.any_eq_true.mpr ⟨kv,m,decide_eq_true e⟩
 ·rw [if_neg h,if_neg]
  ·rw [List.map_append]
   exact Ag.append r (Ag.cons rx Ag.nil)
  ·intro z
   obtain ⟨kv,m,e⟩:=List.any_eq_true.mp z
   exact h (List.mem_map.mpr ⟨kv,m,of_decide_eq_true e⟩)
theorem O0{kvs:List (Key × V)}{k:Key}:(valV kvs k).isSome=decide (k∈kvs.map (·.1)):=by
 rw [← valV_any]
 by_cases h:k∈kvs.map (·.1)
 ·rw [decide_eq_true h]
  obtain ⟨kv,m,e⟩:=List.mem_map.mp h
  exact List.any_eq_true.mpr ⟨kv,m,decide_eq_true e⟩
 ·rw [decide_eq_false h]
  refine List.any_eq_false.mpr fun kv m=>?_
  simp only [decide_eq_true_eq]
  exact fun e=>h (List.mem_map.mpr ⟨kv,m,e⟩)
theorem QC{κ:KM}{H:Hp}{A:Ad}{k:Key}{d:Dt}:∀ {kvs:List (Key × V)} {ds:List Dt},Ag κ H A ds (kvs.map (·.2))→OG (kvs.map (·.1)) ds k=some d→∃ v,valV kvs k=some v∧Rep κ H A d v
 | [],ds,r,e=>by cases e
 | kv :: kvs,[],r,e=>by cases e
 | kv :: kvs,d0 :: ds,r,e=>by
  unfold Ag at r
  obtain ⟨u,us,eu,r1,r2⟩:=r
  rw [List.map_cons] at eu e
  injection eu with e1 e2
  subst e1 e2
  unfold OG at e
  by_cases h:kv.1=k
  ·rw [if_pos h] at e
   cases e
   exact ⟨kv.2,valV_pos h,r1⟩
  ·rw [if_neg h] at e
   obtain ⟨v,h1,h2⟩:=QC r2 e
   exact ⟨v,by rw [valV_neg h]; exact h1,h2⟩
def EI(i:Nat):Env→SOut:=fun ρ=>.ok .nx (ρ.set i (some (.od [] [])))
def C7(i:Nat)(fk f:Env→Out Dt)(lk:List Nat):Env→SOut:=fun ρ=>F8 (f ρ) ρ fun d=>match (AI d lk ρ)[i]? with
 | some (some (.od ks ds))=>F8 (fk (AI d lk ρ)) (AI d lk ρ) fun k=>(match keyD k with
  | some k=>if ks.length < 16777216 then .ok .nx ((AI d lk ρ).set i (some (.od (D7 ks k) (D6 ks ds k d)))) else .bad
  | none=>.bad)
 | _=>.bad
def Ma(a b:Dt):Option Bool:=match b with
 | .dic ks _=>(keyD a).map fun k=>decide (k∈ks)
 | _=>none
def Cc(a b:Dt):Option Dt:=match a with
 | .dic ks ds=>(keyD b).bind fun k=>OG ks ds k
 | _=>none
def KJ(i:Nat):Env→Out Dt:=fun ρ=>match ρ[i]? with
 | some (some (.od ks _))=>.ok (.int ks.length)
 | _=>.bad
section
variable {K:PySem.W.Frag} {W:WX} {la lb lk:List Nat}
theorem Uq(i:Nat):F7 K W (tAsg tDNewK (gName i)) (EI i):=by
 intro μ H0 A0 ρ σ H D s h
 intro p hp
 have q:=s.Uv (i:=i) (lk:=[]) (ks:=[]) (ds:=[]) (kvs:=[]) (Same.new hp) hp upd_same rfl Ag.nil
 exact h _ _ _ (Xt.refl _) q
theorem UQ{i:Nat}{te tk:TE}{f fk:Env→Out Dt}(ha:DZ K W te f la)(hk:DZ K W tk fk lb):F7 K W (sDPut (tVar i) tk te) (C7 i fk f la):=by
 intro μ H0 A0 ρ σ H D s h
 unfold C7 at h
 refine ha _ _ _ _ _ _ _ s (AK.st s h fun d _ h2 v H1 s1 r1=>?_)
 obtain ⟨s2,r2⟩:=fzD s s1 r1
 split at h2
 ·rename_i ks ds e2
  obtain ⟨a,kvs,e1,h0,h1,hks,r3⟩:=s2.lo i _ e2
  refine ⟨_,e1,?_⟩
  refine hk _ _ _ _ _ _ _ s2 (AK.st s2 h2 fun k _ h3 w H2 s3 r4=>?_)
  have sg:=s2.grow s3
  split at h3
  ·rename_i k' ek
   split at h3
   ·rename_i hl
    subst hks
    have ew:=JN ek r4
    subst ew
    have h1':=s3 _ _ h1
    refine ⟨a,_,rfl,DPut.k h1' (by rw [List.length_map] at hl; rw [sizeLine_eq]; exact hl),?_⟩
    exact h3 _ _ _ (Xt.refl _) (sg.Z6 e2 e1 JM (Jw (r2.same s3) (r3.same s3)))
   ·exact False.elim h3
  ·exact False.elim h3
 ·exact False.elim h2
theorem FA{κ:KM}{H:Hp}{A:Ad}{ks:List Key}{ds:List Dt}{v:V}(r:Rep κ H A (.dic ks ds) v):∃ a kvs,v=.ref a∧Rd H a (.dK kvs)∧kvs.map (·.1)=ks∧Ag κ H A ds (kvs.map (·.2)):=by
 unfold Rep at r
 obtain ⟨a,kvs,rfl,_,h1,h2,h3⟩:=r
 exact ⟨a,kvs,rfl,h1,h2,h3⟩
theorem Qb{ta tb:TE}{fa fb:Env→Out Dt}(ha:DZ K W ta fa la)(hb:DZ K W tb fb lb):OU K W (tB (tDNotIn ta tb)) (t2 fa fb (CY Ma)) []:=by
 intro μ H0 A0 ρ σ H Q s h
 refine ha _ _ _ _ _ _ _ s (h.seq fun a ea h1 v1 H1 s1 r1=>?_)
 clear ea
 refine hb _ _ _ _ _ _ _ (s.grow s1) ((h1.grow s1).seq fun b eb h2 v2 H2 s2 r2=>?_)
 clear eb h1
 obtain ⟨k,e,q⟩:=Bt h2
 unfold CY at e
 obtain ⟨k0,ek0,rfl⟩:=Option.map_eq_some_iff.mp e
 clear e
 have e:=ek0
 clear ek0
 unfold Ma at e
 split at e
 ·rename_i ks ds
  obtain ⟨k',ek,rfl⟩:=Option.map_eq_some_iff.mp e
  obtain ⟨p,kvs,rfl,h3,rfl,r3⟩:=FA r2
  have e1:=JN ek r1
  subst e1
  refine ⟨p,valV kvs k',rfl,.inl ⟨kvs,k',h3,rfl,rfl⟩,_,rfl,?_⟩
  rw [O0]
  exact q H2 (s1.trans s2)
 ·cases e
theorem Wm{ta tb:TE}{fa fb:Env→Out Dt}(ha:DZ K W ta fa la)(hb:DZ K W tb fb lb):DZ K W (tDGet ta tb) (e2 fa fb Cc) (la ++ lb):=by
 intro μ H0 A0 ρ σ H Q s h
 refine ha _ _ _ _ _ _ _ s (h.seq fun a ea h1 v1 H1 s1 r1=>?_)
 clear ea
 refine hb _ _ _ _ _ _ _ (s.grow s1) ((h1.grow s1).seq fun b eb h2 v2 H2 s2 r2=>?_)
 clear eb h1
 obtain ⟨d,e,q⟩:=Bt h2
 unfold Cc at e
 split at e
 ·rename_i ks ds
  obtain ⟨k',ek,e⟩:=Option.bind_eq_some_iff.mp e
  obtain ⟨p,kvs,rfl,h3,rfl,r3⟩:=FA (r1.same s2)
  have e1:=JN ek r2
  subst e1
  obtain ⟨v,ev,rv⟩:=QC r3 e
  refine ⟨p,v,rfl,.inl ⟨kvs,k',h3,rfl,ev.symm⟩,q _ _ (s1.trans s2) (rv.Bv fun _=>ZD)⟩
 ·cases e
theorem Si(i:Nat):DZ K W (tCB (fun xs H Q=>∃ a kvs,xs=[V.ref a]∧H a=some (.dK kvs)∧Q (.int kvs.length) H) (tCons (tVar i) tNil)) (KJ i) []:=by
 intro μ H0 A0 ρ σ H Q s h
 unfold KJ at h
 split at h
 ·rename_i ks ds e0
  obtain ⟨a,kvs,e1,h0,h1,hks,r3⟩:=s.lo i _ e0
  refine ⟨_,e1,a,kvs,rfl,h1,?_⟩
  have e:(kvs.length:Int)=(ks.length:Int):=by rw [← hks,List.length_map]
  rw [e]
  exact h _ H (Same.refl H) rfl
 ·exact False.elim h
theorem Jt{κ:KM}{H:Hp}{A:Ad}:∀ kvs:List (Key × V),Ag κ H A ((kvs.map (·.1)).map Iq) (kvs.map fun kv=>kV kv.1)
 | []=>Ag.nil
 | kv :: kvs=>Ag.cons (Lj kv.1) (Jt kvs)
end
section
variable {X:Cx} {W:WX} {a b e:Expr} {fa fb f fk:Env→Out Dt} {la lb lk:List Nat} {pos p p1 p2 p3:Pos} {j:Nat}
theorem u1(hr:Room j X.A):X.A.units + 1 < cLine:=by have:=Kh hr; omega
theorem L1(i:Nat){x:Str}{pos':Pos}(hN:X.N.Nodup)(hi:X.N[i]? = some x:=by rfl)(hx:Loc X.env.scope x:=by first | exact Or.inl rfl | exact Or.inr rfl)(hs:swapsWith (.Dict [] [] p) (some (.Name x pos')) pos.line X.env=pure false:=by rfl)
  (hf:X.fn x=true∨X.env.scope.names.lookup x=some .local:=by first | exact .inl rfl | exact .inr rfl | assumption):Kd X W (.Assign [.Name x pos'] (.Dict [] [] p) pos) (EI i):=
 ⟨_,ps_set hN hi hx pe_dnewK hs hf,Uq i⟩
theorem NR(hr:Room j X.A)(i:Nat){x:Str}(h:Bp X W e f lk)(hk:Bp X W a fk la)(hN:X.N[i]? = some x:=by rfl)(hv:Vis X.env.scope x:=by first | exact Or.inl rfl | exact Or.inr (Or.inl rfl) | exact Or.inr (Or.inr rfl))(hd:(x == ("__debug__" : Str))=false:=by decide)
  (hcd:(x == ("__classdict__" : Str))=false:=by decide) (hs:swapsWith e (some (.Subscript (.Name x p1) a p2)) pos.line X.env=pure false:=by rfl):Kd X W (.Assign [.Subscript (.Name x p1) a p2] e pos) (C7 i fk f lk):=by
 obtain ⟨t,p,d⟩:=h
 obtain ⟨t',p',d'⟩:=hk
 exact ⟨_,ps_dput (u1 hr) (pe_var hN hv hd hcd) p' p hs,UQ d d'⟩
theorem MM(hr:Room j X.A)(ha:Bp X W a fa la)(hb:Bp X W b fb lb)(hm:behindInMarks .NotIn b=false:=by first | exact nobehind _ (by decide) (by decide) | rfl):TQ X W (.Compare a [.NotIn] [b] pos) (t2 fa fb (CY Ma)) []:=by
 obtain ⟨t,p,d⟩:=ha
 obtain ⟨t',p',d'⟩:=hb
 exact ⟨_,pt_cmp (pc_dnotin (u1 hr) p p') hm,Qb d d'⟩
theorem FY(hr:Room j X.A)(ha:Bp X W a fa la)(hb:Bp X W b fb lb)(hs:NoSl b:=by exact fun _ _=>rfl):Bp X W (.Subscript a b pos) (e2 fa fb Cc) (la ++ lb):=by
 obtain ⟨t,p,d⟩:=ha
 obtain ⟨t',p',d'⟩:=hb
 exact ⟨_,pe_dget (u1 hr) p p' hs,Wm d d'⟩
theorem Us(i:Nat){x:Str}(hg:Gl X "len")(hm:X.mg "len" = none)(hN:X.N[i]? = some x:=by rfl)(hv:Vis X.env.scope x:=by first | exact Or.inl rfl | exact Or.inr (Or.inl rfl) | exact Or.inr (Or.inr rfl))(hd:(x == ("__debug__" : Str))=false:=by decide)
  (hcd:(x == ("__classdict__" : Str))=false:=by decide) (he:starEach [.Name x p1] X.env=(false,eval (.Name x p1) X.env) :: starEach [] X.env:=by rfl):Bp X W (.Call (.Name "len" p) [.Name x p1] [] pos) (KJ i) []:=
 ⟨_,pe_callB call_lenD hg hm boot_len (pa_cons (pe_var hN hv hd hcd) pa_nil he) (by decide) (by decide) he rfl,Si i⟩
end
end FD
namespace FD
open PySem L2 PyProof.Rows PySem.Spec
section
variable {K:PySem.W.Frag} {W:WX} {la lb lc lk:List Nat}
end
section
variable {X:Cx} {W:WX} {a b c e:Expr} {fa fb:Env→Out (List Dt)} {ft:Env→Out Bool} {la lb lc lk:List Nat} {pos p p1 p2 p3:Pos} {j:Nat}
end
end FD
namespace HotX
open PySem PySem.Spec PyProof.Rows
variable {prog:Program} {w:World} {A:Around} {E:Value→Shared→Prop} {s:Shared}
end HotX
namespace L2H
open PySem PySem.Spec PyProof.Rows L2 HotX
end L2H
namespace FD
open PySem L2 L2H PyProof.Rows PySem.Spec
section
variable {K:PySem.W.Frag} {W:WX} {lk la:List Nat}
end
section
variable {X:Cx} {W:WX} {a e tg iter:Expr} {es:List Expr} {f:Env→Out Dt} {fs fl:Env→Out (List Dt)} {g:Env→SOut} {u:Dt→Env→Option Env} {lk la:List Nat} {pos p:Pos} {body:List Stmt} {j:Nat}
end
structure ClH (P:Program) (w:World) (K:PySem.W.Frag) (mg:Str→Option Value) (base:Heap) (x:Str) (k n:Nat) (φ:List Dt→Out Dt):Prop where
 ex:∃ (f:Addr) (fd:FuncData) (ps:List Str),FnH P w K mg base (L2N.CX P w) k f fd ps (Cw K n φ)∧mg x=some (.ref f)∧PySem.W.keepIn K (.ref f)=true∧Binds K fd ps []
section
variable {P:Program} {w:World} {K:PySem.W.Frag} {mg:Str→Option Value} {base:Heap}
end
section
variable {X:Cx} {W:WX} {e:Expr} {es:List Expr} {fs:Env→Out (List Dt)} {lk:List Nat} {p pos:Pos} {φ:List Dt→Out Dt}
end
end FD
namespace FD
open PySem L2 PyProof.Rows PySem.Spec
section
variable {X:Cx} {W:WX} {S lk la:List Nat} {e o:Expr} {pos p2 p3:Pos}
end
end FD
namespace FD
open PySem L2 PyProof.Rows PySem.Spec
section
variable {X:Cx} {W:WX} {a b c e tg:Expr} {fa fb fc f:Env→Out Dt} {la lb lc lk:List Nat} {pos:Pos}
end
end FD
namespace FD
open PySem L2 PyProof.Rows PySem.Spec
section
variable {ρ:Env} {n i k:Nat} {d:Dt} {ds:List Dt} {cs:List Cell} {lk:List Nat} {f fa fb fk fx:Env→Out Dt} {fl fl2:Env→Out (List Dt)} {ft:Env→Out Bool} {fi:Env→XO Dt} {fxl:Env→XO (List Dt)} {u:Dt→Env→Option Env} {z:Int}
theorem Pr{g:List Dt→Option (List Dt)}:lB g fl ρ=(fl ρ).bind fun ds=>DY (g ds):=rfl
theorem Iy:Qn f ρ=(f ρ).bind fun a=>DY (UT a):=rfl
theorem Fn:UT (.lst ds)=some ds.reverse:=rfl
theorem EB:K3 [.lst ds]=some (.tup ds):=rfl
theorem GP:EI i ρ=.ok .nx (ρ.set i (some (.od [] []))):=rfl
def odE(o:Option (Option Lo))(k:List Key→List Dt→SOut):SOut:=match o with
 | some (some (.od ks ds))=>k ks ds
 | _=>.bad
theorem KC{ks:List Key}{k:List Key→List Dt→SOut}:odE (some (some (.od ks ds))) k=k ks ds:=rfl
theorem GB:C7 i fk f lk ρ=F8 (f ρ) ρ fun d=>odE ((AI d lk ρ)[i]?) fun ks ds=>F8 (fk (AI d lk ρ)) (AI d lk ρ) fun k=>F8 (DY (keyD k)) ρ fun k=>if ks.length < 16777216 then .ok .nx ((AI d lk ρ).set i (some (.od (D7 ks k) (D6 ks ds k d)))) else .bad:=by
 unfold C7
 congr 1
 funext d
 generalize (AI d lk ρ)[i]? = o
 cases o with
 | none=>rfl
 | some o=>cases o with
  | none=>rfl
  | some l=>cases l with
   | od ks ds=>
    show F8 _ _ _=F8 _ _ _
    congr 1
    funext k
    cases keyD k <;> rfl
   | _=>rfl
theorem GS{s:Str}:keyD (.str s)=some (.inr s):=rfl
def odN(o:Option (Option Lo)):Out Dt:=match o with
 | some (some (.od ks _))=>.ok (.int ks.length)
 | _=>.bad
def olB(o:Option (Option Lo)):Bool:=match o with
 | some (some (.ol _))=>true
 | _=>false
def olP(o:Option (Option Lo))(z:Dt)(k:List Dt→Int→Option (Dt × Env)):Option (Dt × Env):=match o,z with
 | some (some (.ol ds)),.int z=>k ds z
 | _,_=>none
theorem Fm:KJ i ρ=odN (ρ[i]?):=rfl
theorem K0{ks:List Key}:odN (some (some (.od ks ds)))=.ok (.int ks.length):=rfl
theorem Gx:MY i fi ρ=if olB (ρ[i]?)=true then (fi ρ).bind fun z ρ1=>pE (Xi i z ρ1) else .bad:=by
 unfold MY
 have h:X0 i ρ=olB (ρ[i]?):=rfl
 rw [h]
 congr 2
theorem KI:olB (some (some (.ol ds)))=true:=rfl
theorem IB{z:Dt}:Xi i z ρ=olP (ρ[i]?) z fun ds z=>(ixN ds.length z).bind fun j=>(ds[j]?).bind fun d=>if ds.length≤16777216 then some (d,ρ.set i (some (.ol (ds.eraseIdx j)))) else none:=rfl
theorem LC{k:List Dt→Int→Option (Dt × Env)}:olP (some (some (.ol ds))) (.int z) k=k ds z:=rfl
theorem IX:XW (.tup ds) .non=some false:=rfl
theorem Jb:XW (.lst ds) .non=some false:=rfl
theorem IW{z y:Int}:Jr (.int z) (.int y)=some (!(z == y)):=rfl
theorem X3{vs:List Nat}{t:Env→Out Bool}{src:Env→Out (List Dt)}:EG u vs t f src lk ρ=(src ρ).bind fun ds=>if ds.length≤16777216 then P6 u t f (Br (frz lk ρ) vs) ds else .bad:=rfl
theorem OX{t:Env→Out Bool}:P6 u t f ρ (d :: ds)=(DY (u d ρ)).bind fun ρ1=>(UJ (t ρ1)).bind fun b=>if b=true then (UJ (f ρ1)).bind fun y=>(P6 u t f ρ ds).bind fun r=>.ok (y :: r) else P6 u t f ρ ds:=rfl
theorem Rp:AD ρ=.ok true:=rfl
end
theorem Kw{α:Type}{i:Nat}{f:Env→Out Dt}{ρ:Env}{e:α→Dt}{g:α→Dt}:∀ {xs:List α},(∀ x∈xs,f (ρ.set i (some (.sh (e x))))=.ok (g x))→P6 (Ak i) AD f ρ (xs.map e)=.ok (xs.map g)
 | [],_=>rfl
 | x :: xs,h=>by
  rw [List.map_cons,OX,E4]
  simp only [Co,Out.AB,Rp,G1,if_true,h x List.mem_cons_self]
  rw [Kw fun x hx=>h x (List.mem_cons_of_mem _ hx)]
  rfl
def Wy:SOut→Out Dt
 | .ok .nx _=>.ok .non
 | .ok (.rt d) _=>if d.na=true then .ok d else .bad
 | .exc x _=>.exc x
 | _=>.bad
theorem RI{n:Nat}{g:Env→SOut}{ds:List Dt}(h:Dt.F5 ds=true):Ml n g ds=Wy (g (ds.map (fun d=>some (Lo.sh d)) ++ List.replicate (n - ds.length) none ++ [some (.mh [])])):=by
 unfold Ml
 rw [if_pos h]
 generalize g _=o
 cases o with
 | ok f ρ=>cases f <;> rfl
 | exc x ρ=>rfl
 | bad=>rfl
theorem RU{d:Dt}{ρ:Env}(h:d.na=true):Wy (.ok (.rt d) ρ)=.ok d:=if_pos h
theorem A6{n:Nat}{φ:List Dt→Out Dt}{ds:List Dt}(h:ds.length=n):D4 n φ ds=φ ds:=if_pos h
theorem D8{n:Nat}{φ:List Dt→List Cell→MO}{ds:List Dt}{cs:List Cell}(h:ds.length=n):J9 n φ ds cs=φ ds cs:=if_pos h
end FD
namespace FD
open PySem L2
end FD
namespace FD
open PySem L2 PyProof.Rows PySem.Spec
section
variable {K:PySem.W.Frag} {W:WX} {la lb lz lk:List Nat} {S:List Nat}
end
def F2:List Dt→Option (List Int)
 | []=>some []
 | .int i :: ds=>(F2 ds).map fun ns=>i :: ns
 | _=>none
theorem Fh:∀ ns:List Int,F2 (ns.map .int)=some ns
 | []=>rfl
 | n :: ns=>by rw [List.map_cons,F2,Fh ns]; rfl
def Sb:Dt→Option (List Dt)
 | .lst ds=>some ds
 | .fls ds=>some ds
 | _=>none
def Mr:List Dt→Option Dt
 | [d]=>(Sb d).bind fun ds=>(F2 ds).map fun ns=>.int ns.sum
 | _=>none
def F6:List Int→Int
 | []=>0
 | [a]=>a
 | a :: b :: l=>max a (F6 (b :: l))
def Mf:List Int→Int
 | []=>0
 | [a]=>a
 | a :: b :: l=>min a (Mf (b :: l))
theorem E5:∀ {l:List Int},l≠[]→F6 l∈l∧∀ y∈l,y≤F6 l
 | [],h=>absurd rfl h
 | [a],_=>⟨List.mem_singleton.mpr rfl,fun y hy=>by rw [List.mem_singleton.mp hy]; exact Int.le_refl _⟩
 | a :: b :: l,_=>by
  obtain ⟨h1,h2⟩:=E5 (l:=b :: l) (by simp)
  unfold F6
  constructor
  ·by_cases h:a≤F6 (b :: l)
   ·rw [Int.max_eq_right h]; exact List.mem_cons_of_mem _ h1
   ·rw [Int.max_eq_left (by omega)]; exact List.mem_cons_self
  ·intro y hy
   rcases List.mem_cons.mp hy with rfl | hy
   ·omega
   ·have:=h2 y hy; omega
theorem JL:∀ {l:List Int},l≠[]→Mf l∈l∧∀ y∈l,Mf l≤y
 | [],h=>absurd rfl h
 | [a],_=>⟨List.mem_singleton.mpr rfl,fun y hy=>by rw [List.mem_singleton.mp hy]; exact Int.le_refl _⟩
 | a :: b :: l,_=>by
  obtain ⟨h1,h2⟩:=JL (l:=b :: l) (by simp)
  unfold Mf
  constructor
  ·by_cases h:a≤Mf (b :: l)
   ·rw [Int.min_eq_left h]; exact List.mem_cons_self
   ·rw [Int.min_eq_right (by omega)]; exact List.mem_cons_of_mem _ h1
  ·intro y hy
   rcases List.mem_cons.mp hy with rfl | hy
   ·omega
   ·have:=h2 y hy; omega
def Gp:List Dt→Option Dt
 | [d]=>(Sb d).bind fun ds=>(F2 ds).bind fun ns=>if ns=[] then none else some (.int (F6 ns))
 | _=>none
def JQ:List Dt→Option Dt
 | [d]=>(Sb d).bind fun ds=>(F2 ds).bind fun ns=>if ns=[] then none else some (.int (Mf ns))
 | _=>none
section
variable {K:PySem.W.Frag} {κ:KM} {H:Hp} {A:Ad}
theorem Ku:∀ {ds:List Dt} {ns:List Int} {vs:List V},F2 ds=some ns→Ag κ H A ds vs→vs=ns.map V.int
 | [],ns,vs,e,r=>by cases e; unfold Ag at r; rw [r]; rfl
 | d :: ds,ns,vs,e,r=>by
  unfold Ag at r
  obtain ⟨v,us,rfl,r1,r2⟩:=r
  cases d <;> try (cases e; done)
  rename_i i
  unfold F2 at e
  obtain ⟨ms,e',rfl⟩:=Option.map_eq_some_iff.mp e
  rw [Ku e' r2,List.map_cons]
  rw [show v=V.int i from r1]
theorem Ju{K:PySem.W.Frag}{μ:Mu}{d:Dt}{ds:List Dt}{v:V}(e:Sb d=some ds)(r:Rep ⟨K,μ⟩ H A d v):∃ a us,v=.ref a∧SqL K H a us∧Ag ⟨K,μ⟩ H A ds us:=by
 cases d <;> try (cases e; done)
 ·cases e
  unfold Rep at r
  obtain ⟨a,us,rfl,_,h1,r2⟩:=r
  exact ⟨a,us,rfl,SqL.of h1,r2⟩
 ·cases e
  unfold Rep at r
  obtain ⟨a,us,rfl,h1,r2⟩:=r
  exact ⟨a,us,rfl,SqL.Xw h1,r2⟩
theorem VX:P9 K (rSum K) Mr:=by
 intro μ H A ds d vs Q ha r e q
 unfold Mr at e
 split at e
 ·obtain ⟨v,rfl,rr⟩:=B5 r
  obtain ⟨es,e1,e⟩:=Option.bind_eq_some_iff.mp e
  obtain ⟨ns,e2,rfl⟩:=Option.map_eq_some_iff.mp e
  obtain ⟨a,us,rfl,h1,r2⟩:=Ju e1 rr
  have h2:=Ku e2 r2
  subst h2
  exact ⟨a,ns,rfl,h1,RE.now q rfl⟩
 ·cases e
theorem TZ:P9 K (rMax K) Gp:=by
 intro μ H A ds d vs Q ha r e q
 unfold Gp at e
 split at e
 ·obtain ⟨v,rfl,rr⟩:=B5 r
  obtain ⟨es,e1,e⟩:=Option.bind_eq_some_iff.mp e
  obtain ⟨ns,e2,e⟩:=Option.bind_eq_some_iff.mp e
  obtain ⟨a,us,rfl,h1,r2⟩:=Ju e1 rr
  have h2:=Ku e2 r2
  subst h2
  by_cases hn:ns=[]
  ·rw [if_pos hn] at e; cases e
  ·rw [if_neg hn] at e
   cases e
   obtain ⟨m1,m2⟩:=E5 hn
   refine ⟨a,ns,rfl,h1,List.length_pos_iff.mpr hn,fun m hm hle=>?_⟩
   have:m=F6 ns:=by have:=hle _ m1; have:=m2 _ hm; omega
   rw [this]
   exact RE.now q rfl
 ·cases e
theorem Ut:P9 K (rMin K) JQ:=by
 intro μ H A ds d vs Q ha r e q
 unfold JQ at e
 split at e
 ·obtain ⟨v,rfl,rr⟩:=B5 r
  obtain ⟨es,e1,e⟩:=Option.bind_eq_some_iff.mp e
  obtain ⟨ns,e2,e⟩:=Option.bind_eq_some_iff.mp e
  obtain ⟨a,us,rfl,h1,r2⟩:=Ju e1 rr
  have h2:=Ku e2 r2
  subst h2
  by_cases hn:ns=[]
  ·rw [if_pos hn] at e; cases e
  ·rw [if_neg hn] at e
   cases e
   obtain ⟨m1,m2⟩:=JL hn
   refine ⟨a,ns,rfl,h1,List.length_pos_iff.mpr hn,fun m hm hle=>?_⟩
   have:m=Mf ns:=by have:=hle _ m1; have:=m2 _ hm; omega
   rw [this]
   exact RE.now q rfl
 ·cases e
end
theorem Tb:∀ ds d,Mr ds=some d→d.scal=true:=fun ds d e=>by
 unfold Mr at e
 split at e
 ·obtain ⟨es,e1,e⟩:=Option.bind_eq_some_iff.mp e
  obtain ⟨ns,e2,rfl⟩:=Option.map_eq_some_iff.mp e
  rfl
 ·cases e
theorem Qc:∀ ds d,Gp ds=some d→d.scal=true:=fun ds d e=>by
 unfold Gp at e
 split at e
 ·obtain ⟨es,e1,e⟩:=Option.bind_eq_some_iff.mp e
  obtain ⟨ns,e2,e⟩:=Option.bind_eq_some_iff.mp e
  split at e
  ·cases e
  ·cases e; rfl
 ·cases e
theorem Ql:∀ ds d,JQ ds=some d→d.scal=true:=fun ds d e=>by
 unfold JQ at e
 split at e
 ·obtain ⟨es,e1,e⟩:=Option.bind_eq_some_iff.mp e
  obtain ⟨ns,e2,e⟩:=Option.bind_eq_some_iff.mp e
  split at e
  ·cases e
  ·cases e; rfl
 ·cases e
section
variable {X:Cx} {W:WX} {e o:Expr} {es:List Expr} {fs:Env→Out (List Dt)} {fk fz:Env→Out Dt} {lk la lb lz S:List Nat} {p apos cpos p1 p2 pos:Pos} {j:Nat}
theorem Uh(hc:X.calm=true)(hg:Gl X "sum")(hm:X.mg "sum" = none)(ha:JR X W [e] fs lk)(he:starEach [e] X.env=(false,eval e X.env) :: starEach [] X.env:=by rfl):Bp X W (.Call (.Name "sum" p) [e] [] pos) (eB Mr fs) []:=by
 obtain ⟨ta,pa,da⟩:=ha
 exact ⟨_,pe_callB (cr_sum hc) hg hm (by decide +kernel) pa (by decide) (by decide) he rfl,Ew VX Tb da⟩
theorem NP(hc:X.calm=true)(hg:Gl X "max")(hm:X.mg "max" = none)(ha:JR X W [e] fs lk)(he:starEach [e] X.env=(false,eval e X.env) :: starEach [] X.env:=by rfl):Bp X W (.Call (.Name "max" p) [e] [] pos) (eB Gp fs) []:=by
 obtain ⟨ta,pa,da⟩:=ha
 exact ⟨_,pe_callB (cr_max hc) hg hm boot_max pa (by decide) (by decide) he rfl,Ew TZ Qc da⟩
theorem Xl(hc:X.calm=true)(hg:Gl X "min")(hm:X.mg "min" = none)(ha:JR X W [e] fs lk)(he:starEach [e] X.env=(false,eval e X.env) :: starEach [] X.env:=by rfl):Bp X W (.Call (.Name "min" p) [e] [] pos) (eB JQ fs) []:=by
 obtain ⟨ta,pa,da⟩:=ha
 exact ⟨_,pe_callB (cr_min hc) hg hm boot_min pa (by decide) (by decide) he rfl,Ew Ut Ql da⟩
end
end FD
namespace FD
open PySem L2 PyProof.Rows PySem.Spec
section
variable {K:PySem.W.Frag} {W:WX} {la lb lz lk:List Nat} {S:List Nat}
end
section
variable {X:Cx} {W:WX} {e o:Expr} {es:List Expr} {fs:Env→Out (List Dt)} {fk fz:Env→Out Dt} {lk la lb lz S:List Nat} {p apos cpos p1 p2 pos:Pos} {j:Nat} {st:Stmt} {b:Env→SOut}
end
end FD
namespace FD
open PySem L2 PyProof.Rows PySem.Spec
section
variable {K:PySem.W.Frag} {W:WX} {S:List Nat}
end
section
variable {X:Cx} {W:WX} {S:List Nat}
end
end FD
namespace SrtO
open PySem PySem.Spec PyProof.Rows
section
variable {prog:Program} {w:World} {A:Around} {E:Value→Shared→Prop} {s:Shared}
def Za(h:Heap)(v:Value)(ns:List Int):Prop:=ns≠[]∧∃ a o items n,v=.ref a∧h.get? a=some o∧o.cls=.type "tuple"∧o.data=.seq items n∧IntsAre items.toList ns
theorem Za.keeps{h h':Heap}{v:Value}{ns:List Int}(p:Za h v ns)(k:∀ b o,h.get? b=some o→o.cls=.type "tuple"→h'.get? b=some o):Za h' v ns:=by
 obtain ⟨hn,a,o,items,n,e,ho,hc,hd,hi⟩:=p
 exact ⟨hn,a,o,items,n,e,k _ _ ho hc,hc,hd,hi⟩
end
section
variable {α β:Type}
def ins(lt:α→α→Bool)(x:α):List α→List α
 | []=>[x]
 | y :: l=>if lt y x=true then y :: ins lt x l else x :: y :: l
end
end SrtO
namespace L2
open PySem PySem.Spec PyProof.Rows
def TIs(K:PySem.W.Frag)(H:Hp):List V→List (List Int)→Prop
 | [],[]=>True
 | x :: xs,ns :: nss=>ns≠[]∧(∃ t,x=V.ref t∧SqT K H t (ns.map V.int))∧TIs K H xs nss
 | _,_=>False
theorem TIs.mem{K:PySem.W.Frag}{H:Hp}:∀ {xs:List V} {nss:List (List Int)},TIs K H xs nss→∀ x∈xs,∃ ns,ns≠[]∧∃ t,x=V.ref t∧SqT K H t (ns.map V.int)
 | x :: xs,ns :: nss,⟨h1,h2,h3⟩,y,hy=>by
  rcases List.mem_cons.mp hy with rfl | hy
  ·exact ⟨ns,h1,h2⟩
  ·exact TIs.mem h3 y hy
section
variable {X:Cx}
end
end L2
namespace FD
open PySem L2 PyProof.Rows PySem.Spec
section
variable {K:PySem.W.Frag} {κ:KM} {H:Hp} {A:Ad}
end
section
variable {X:Cx} {W:WX} {e:Expr} {fs:Env→Out (List Dt)} {lk:List Nat} {p pos:Pos}
end
end FD
namespace L2
open PySem PySem.Spec PyProof.Rows
def ZG(K:PySem.W.Frag)(neg:Bool):R2:=fun x y H Q=>∃ p xs d ds,y=.ref p∧SqL K H p xs∧Dp K H x d∧DpAll K H xs ds∧SeqAt.shaped d=true∧ds.all SeqAt.shaped=true∧Q (.bl (if neg then !(ds.any fun e=>PyData.eqv e d) else (ds.any fun e=>PyData.eqv e d))) H
open Classical in
noncomputable def Qq(h:Heap)(d:PyData)(u:Value):Bool:=if q:∃ e,SeqAt.shaped e=true∧∃ as,PySem.Reads h u e as then PyData.eqv (choose q) d else false
section
variable {X:Cx}
theorem W9{h:Heap}{d e:PyData}{u:Value}{as:List Addr}(hs:SeqAt.shaped e=true)(r:PySem.Reads h u e as):Qq h d u=PyData.eqv e d:=by
 have q:∃ e,SeqAt.shaped e=true∧∃ as,PySem.Reads h u e as:=⟨e,hs,as,r⟩
 unfold Qq
 rw [dif_pos q]
 obtain ⟨h1,bs,h2⟩:=Classical.choose_spec q
 rw [SeqAt.Reads.unique _ _ _ _ _ (SeqAt.canLay_of_shaped hs) r h2]
theorem Pf{pins:List (Addr × Obj)}{σ:St}{H:Hp}{s:Shared}(I:Inv X pins σ H s)(hu:X.A.units + 66 < cLine){d:PyData}{v:Value}{as:List Addr}(hd:SeqAt.shaped d=true)(rv:PySem.Reads s.heap v d as):
  ∀ {xs:List V} {us:List Value} {ds:List PyData},Vals xs us→DpAll X.K H xs ds→ds.all SeqAt.shaped=true→(∀ u∈us,SeqAt.EqAt X.A.in1 s u v (Qq s.heap d u))∧us.any (Qq s.heap d)=ds.any fun e=>PyData.eqv e d
 | [],_,[],.nil,_,_=>⟨(fun _ h=>nomatch h),rfl⟩
 | x :: xs,u :: us,e :: ds,.cons r t,h,hs=>by
  rw [List.all_cons,Bool.and_eq_true] at hs
  cases h with
  | cons h1 h2=>
   obtain ⟨k1,k2⟩:=Pf I hu hd rv t h2 hs.2
   obtain ⟨bs,rb⟩:=Dp.reads I e x u h1 r
   have ee:=W9 (d:=d) hs.1 rb
   refine ⟨fun w hw=>?_,by rw [List.any_cons,List.any_cons,ee,k2]⟩
   rcases List.mem_cons.mp hw with rfl | hw
   ·rw [ee]
    exact SeqAt.eqAt_reads e d _ _ _ _ _ _ rb rv (SeqAt.canLay_of_shaped hs.1) (SeqAt.canLay_of_shaped hd) (SeqAt.room_of_shaped (A:=X.A.in1) hs.1 (by show X.A.units + 1 + 64 < cLine; omega))
   ·exact k1 w hw
theorem R9(hu:X.A.units + 66 < cLine):OpR X (compareOp .NotIn) (ZG X.K true):=by
 intro pins s σ H x y v u Q I rx ry h
 obtain ⟨p,xs,d,ds,rfl,hq,hd,hds,sd,sds,q⟩:=h
 cases ry
 obtain ⟨Hw,r,pl,hz⟩:=I.list hq
 obtain ⟨as,rv⟩:=Dp.reads I d x v hd rx
 obtain ⟨k1,k2⟩:=Pf I hu sd rv r hds sds
 refine SeqAt.notIn_listAt (Qq s.heap d) pl.isList (fun w hw=>k1 w (by simpa using hw)) ⟨.bl _,H,I,rfl,?_⟩
 rw [show Hw.toArray.any (Qq s.heap d)=Hw.any (Qq s.heap d) by simp,k2]
 exact q
end
end L2
namespace FD
open PySem L2 PyProof.Rows PySem.Spec
def Mm(a b:Dt):Option Bool:=a.py.bind fun d=>(Sb b).bind fun es=>(Dt.Nd es).bind fun ds=>if SeqAt.shaped d=true∧ds.all SeqAt.shaped=true then some (ds.any fun e=>PyData.eqv e d) else none
theorem Q2{K:PySem.W.Frag}:KS K (ZG K true) (CY Mm):=by
 intro μ H A a b d x y Q ra rb e q
 obtain ⟨d',e',rfl⟩:=Option.map_eq_some_iff.mp e
 clear e
 unfold Mm at e'
 obtain ⟨p,h1,e'⟩:=Option.bind_eq_some_iff.mp e'
 obtain ⟨es,h2,e'⟩:=Option.bind_eq_some_iff.mp e'
 obtain ⟨ds,h3,e'⟩:=Option.bind_eq_some_iff.mp e'
 obtain ⟨⟨h4,h5⟩,rfl⟩:=AX e'
 obtain ⟨t,us,rfl,hs,r⟩:=Ju h2 rb
 exact ⟨t,us,p,ds,rfl,hs,Rep.dp a x p h1 ra,Ag.YN es us ds h3 r,h4,h5,q⟩
theorem SH{X:Cx}{j:Nat}(hr:Room j X.A):Cmp X .NotIn (CY Mm):=⟨_,R9 (by have:=hr.un; omega),Q2⟩
section
variable {K:PySem.W.Frag} {W:WX} {la lb lk:List Nat}
end
section
variable {X:Cx} {W:WX} {S:List Nat} {a b e:Expr} {fa fb f fk fv:Env→Out Dt} {la lb lk:List Nat} {pos p p1 p2 p3:Pos} {j:Nat}
end
section
variable {X:Cx} {W:WX} {S:List Nat} {a b e:Expr} {fa fb:Env→XO Dt} {fs:Env→XO (List Dt)} {la lb lk:List Nat} {pos p:Pos}
end
end FD
namespace PySem.FX
open PySem PySem.W PySem.Calls PyProof.Rows PySem.Spec
section
variable {prog:Program} {w:World} {A:Around} {E:Value→Shared→Prop} {s:Shared} {K:Frag} {mg:Str→Option Value} {C fI cc cda:Addr} {qual:Str} {params:Arguments} {body:List Stmt} {scope:Scope}
variable {R:Result→Shared→Prop} {base:Heap}
end
end PySem.FX
namespace PySem
end PySem
namespace L2
open PySem PySem.Spec PyProof.Rows
end L2
namespace FD
open PySem L2 PyProof.Rows PySem.Spec
section
variable {K:PySem.W.Frag} {W:WX} {la lb lk:List Nat}
end
section
variable {X:Cx} {W:WX} {e:Expr} {lo hi:Option Expr} {fl fh:Env→Out (Option Int)} {f:Env→Out Dt} {la:List Nat} {p2 pos:Pos}
end
end FD
namespace L2
open PySem PySem.Spec PyProof.Rows
def Zh(a b:PyData):Bool:=PySem.W.dataLe false (fun d:PyData=>d) a b
def Ni(a b:V × PyData):Bool:=PySem.W.dataLe false (fun p:V × PyData=>p.2) a b
def Pn(K:PySem.W.Frag):List V→Hp→VK→Prop:=fun vs H Q=>∃ (a:Addr) (xs:List V) (ds:List PyData),vs=[V.ref a]∧SqL K H a xs∧DpAll K H xs ds∧PySem.W.AllAlike ds∧PySem.W.Sortable ds∧(∀ d∈ds,d.depth≤60) ∧
 ∀ p,H p=none→Q (.ref p) (upd H p (.lst (((xs.zip ds).mergeSort Ni).map (·.1))))
section
variable {X:Cx}
theorem Oh{pins:List (Addr × Obj)}{σ:St}{H:Hp}{s:Shared}(I:Inv X pins σ H s):∀ {xs:List V} {us:List Value} {ds:List PyData},Vals xs us→DpAll X.K H xs ds →
  PySem.W.EachIs (fun (u:Value) (b:V × PyData)=>RelV b.1 u) us (xs.zip ds)∧PySem.W.EachIs (fun (u:Value) (b:V × PyData)=>∃ as,PySem.Reads s.heap u b.2 as) us (xs.zip ds)∧(xs.zip ds).map (·.2)=ds
 | [],_,[],.nil,_=>⟨.nil,.nil,rfl⟩
 | x :: xs,u :: us,d :: ds,.cons r t,.cons h1 h2=>by
  obtain ⟨k1,k2,k3⟩:=Oh I t h2
  obtain ⟨as,ra⟩:=Dp.reads I d x u h1 r
  exact ⟨.cons r k1,.cons ⟨as,ra⟩ k2,by rw [List.zip_cons_cons,List.map_cons,k3]⟩
theorem Jq:∀ {us:List Value} {bs:List (V × PyData)},PySem.W.EachIs (fun (u:Value) (b:V × PyData)=>RelV b.1 u) us bs→Vals (bs.map (·.1)) us
 | _,_,.nil=>.nil
 | _,_,.cons r t=>.cons r (Jq t)
theorem QF(hu:X.A.units + 66 < cLine):CallR X (.builtin "sorted") (Pn X.K):=by
 intro pins s σ H vs us Q I r h
 obtain ⟨a,xs,ds,rfl,hs,hd,ha,hk,hdep,q⟩:=h
 obtain ⟨Hw,rv,hl,hz⟩:=I.list hs
 obtain ⟨u,rfl,ru⟩:=vals1 r
 obtain rfl:u=Value.ref a:=ru
 obtain ⟨k1,k2,k3⟩:=Oh I rv hd
 have hlen:=k1.length
 refine PySem.W.sorted_data (bs:=xs.zip ds) (enc:=fun p:V × PyData=>p.2) hl.isList k1 k2 (by rw [k3]; exact ha) (by rw [k3]; exact hk) (by rw [← hlen,← rv.length]; exact hz) (fun b hb=>?_) fun out ho he=>?_
 ·have:b.2∈ds:=by rw [← k3]; exact List.mem_map.mpr ⟨b,hb,rfl⟩
  have:=hdep _ this
  show X.A.units + 2 + b.2.depth < cLine
  omega
 ·have hv:=Jq he
  refine ⟨.ref (s.heap.objs.size + 1),upd H (s.heap.objs.size + 1) (.lst (((xs.zip ds).mergeSort Ni).map (·.1))),?_,rfl,q _ (I.hok.fresh (Nat.le_succ _))⟩
  obtain ⟨n,hn⟩:∃ n,(sortedAll s.heap Hw (List.toArray out)).get? (s.heap.objs.size + 1)=some (seqObj "list" out.toArray n):=sortedAll_at s.heap Hw out.toArray
  refine I.laid (t':=s.toks) (fun b o e=>sortedAll_old e) (Nat.le_succ _) ⟨?_,out,n,hv,hn⟩
  show (((xs.zip ds).mergeSort Ni).map (·.1)).length≤sizeLine
  rw [List.length_map,List.length_mergeSort,← hlen,← rv.length]
  exact hz
end
end L2
namespace FD
open PySem L2 PyProof.Rows PySem.Spec
def Oq(ps:List PyData):Bool:=ps.all fun a=>ps.all fun b=>PySem.W.alike a b
def VF:PyData→Bool
 | .tuple (_ :: _)=>true
 | _=>false
def othB:PyData→Bool
 | .none=>false
 | .tuple _=>false
 | _=>true
def MX(ps:List PyData):Bool:=(ps.all VF || ps.all othB) && ps.all fun d=>decide (d.depth≤60)
def Sa(a b:Dt × PyData):Bool:=Zh a.2 b.2
def De:List Dt→Option (List Dt)
 | [d]=>(Sb d).bind fun ds=>(Dt.Nd ds).bind fun ps=>if Oq ps=true∧MX ps=true then some (((ds.zip ps).mergeSort Sa).map (·.1)) else none
 | _=>none
section
variable {K:PySem.W.Frag} {κ:KM} {H:Hp} {A:Ad}
theorem JI:∀ {ds:List Dt} {vs:List V} {ps:List PyData},Ag κ H A ds vs→PySem.W.EachIs (fun (p:Dt × PyData) (q:V × PyData)=>Rep κ H A p.1 q.1∧p.2=q.2) (ds.zip ps) (vs.zip ps)
 | [],vs,ps,r=>by
  unfold Ag at r
  subst r
  exact .nil
 | d :: ds,vs,[],r=>by
  rw [List.zip_nil_right,List.zip_nil_right]
  exact .nil
 | d :: ds,vs,p :: ps,r=>by
  unfold Ag at r
  obtain ⟨u,us,rfl,r1,r2⟩:=r
  exact .cons ⟨r1,rfl⟩ (JI r2)
theorem JE:∀ {as:List (Dt × PyData)} {bs:List (V × PyData)},PySem.W.EachIs (fun (p:Dt × PyData) (q:V × PyData)=>Rep κ H A p.1 q.1∧p.2=q.2) as bs→Ag κ H A (as.map (·.1)) (bs.map (·.1))
 | _,_,.nil=>Ag.nil
 | _,_,.cons h t=>Ag.cons h.1 (JE t)
theorem Sf{K:PySem.W.Frag}:CaL K (Pn K) De:=by
 intro μ H A ds es vs Q r e q
 unfold De at e
 split at e
 ·obtain ⟨v,rfl,rr⟩:=B5 r
  obtain ⟨es',e1,e⟩:=Option.bind_eq_some_iff.mp e
  obtain ⟨ps,e2,e⟩:=Option.bind_eq_some_iff.mp e
  obtain ⟨⟨h1,h2⟩,rfl⟩:=AX e
  obtain ⟨a,us,rfl,hs,r2⟩:=Ju e1 rr
  unfold MX at h2
  rw [Bool.and_eq_true,Bool.or_eq_true] at h2
  obtain ⟨h3,h4⟩:=h2
  refine ⟨a,us,ps,rfl,hs,Ag.YN es' us ps e2 r2,fun d hd d' hd'=>List.all_eq_true.mp (List.all_eq_true.mp h1 d hd) d' hd',?_,fun d hd=>of_decide_eq_true (List.all_eq_true.mp h4 d hd),fun p hp=>q p _ hp ?_⟩
  ·rcases h3 with h3 | h3
   ·refine .inl fun d hd=>?_
    have:=List.all_eq_true.mp h3 d hd
    cases d <;> try (exact Bool.noConfusion this)
    rename_i l
    cases l with
    | nil=>exact Bool.noConfusion this
    | cons x l=>exact ⟨x,l,rfl⟩
   ·refine .inr fun d hd=>?_
    have:=List.all_eq_true.mp h3 d hd
    cases d <;> first | exact Bool.noConfusion this | exact ⟨(fun z=>nomatch z),(fun xs z=>nomatch z)⟩
  ·have ee:=JI (ps:=ps) r2
   exact JE (PySem.W.sort_each (r:=Sa) (s:=Ni) ee fun p hp q hq=>by
    have a1:=(ee.zip p hp).2
    have a2:=(ee.zip q hq).2
    show Zh p.1.2 q.1.2=Zh p.2.2 q.2.2
    rw [a1,a2])
 ·cases e
end
section
variable {X:Cx} {W:WX} {e:Expr} {fs:Env→Out (List Dt)} {lk:List Nat} {p pos:Pos} {j:Nat}
theorem LZ(hr:Room j X.A)(hg:Gl X "sorted")(hm:X.mg "sorted" = none)(ha:JR X W [e] fs lk)(he:starEach [e] X.env=(false,eval e X.env) :: starEach [] X.env:=by rfl):Ts X W (.Call (.Name "sorted" p) [e] [] pos) (lB De fs) lk:=by
 obtain ⟨ta,pa,da⟩:=ha
 exact ⟨_,pe_callB (QF (by have:=hr.un; omega)) hg hm PyProof.Rows.boot_sorted pa (by decide) (by decide) he rfl,XM Sf da⟩
end
end FD
namespace L2
open PySem PySem.Spec PyProof.Rows
def Yv:CmpOp→PyData→PyData→Bool
 | .Lt,a,b=>PySem.W.dataLt a b
 | .Gt,a,b=>PySem.W.dataLt b a
 | .LtE,a,b=>!PySem.W.dataLt b a
 | _,a,b=>!PySem.W.dataLt a b
def ZL:CmpOp→Bool
 | .Lt=>true
 | .Gt=>true
 | .LtE=>true
 | .GtE=>true
 | _=>false
def ZN(K:PySem.W.Frag)(op:CmpOp):R2:=fun x y H Q=>∃ d e,Dp K H x d∧Dp K H y e∧PySem.W.alike d e=true∧d≠.none∧d.depth≤60∧Q (.bl (Yv op d e)) H
section
variable {X:Cx}
theorem YK{op:CmpOp}(ho:ZL op=true)(hu:X.A.units + 66 < cLine):OpR X (compareOp op) (ZN X.K op):=by
 intro pins s σ H x y v u Q I rx ry h
 obtain ⟨d,e,hd,he,ha,hn,hdep,q⟩:=h
 obtain ⟨as,ra⟩:=Dp.reads I d x v hd rx
 obtain ⟨bs,rb⟩:=Dp.reads I e y u he ry
 have hb:X.A.units + min d.depth e.depth < cLine:=by omega
 cases op <;> first
  | exact Bool.noConfusion ho
  | exact PySem.W.lt_data ra rb ha hn hb ⟨.bl _,H,I,rfl,q⟩
  | exact PySem.W.gt_data ra rb ha hn hb ⟨.bl _,H,I,rfl,q⟩
  | exact PySem.W.le_data ra rb ha hn hb ⟨.bl _,H,I,rfl,q⟩
  | exact PySem.W.ge_data ra rb ha hn hb ⟨.bl _,H,I,rfl,q⟩
end
end L2
namespace FD
open PySem L2 PyProof.Rows PySem.Spec
def ZO:PyData→Bool
 | .none=>true
 | _=>false
def Hb(op:CmpOp)(a b:Dt):Option Bool:=a.py.bind fun d=>b.py.bind fun e=>if PySem.W.alike d e=true∧ZO d=false∧d.depth≤60 then some (Yv op d e) else none
theorem Xd{K:PySem.W.Frag}{op:CmpOp}:KS K (ZN K op) (Hb op):=by
 intro μ H A a b d x y Q ra rb e q
 unfold Hb at e
 obtain ⟨p,h1,e⟩:=Option.bind_eq_some_iff.mp e
 obtain ⟨p',h2,e⟩:=Option.bind_eq_some_iff.mp e
 obtain ⟨⟨h3,h4,h5⟩,rfl⟩:=AX e
 exact ⟨p,p',Rep.dp a x p h1 ra,Rep.dp b y p' h2 rb,h3,(fun z=>by rw [z] at h4; exact Bool.noConfusion h4),h5,q⟩
theorem Ul{X:Cx}{j:Nat}{op:CmpOp}(hr:Room j X.A)(ho:ZL op=true:=by rfl):Cmp X op (Hb op):=⟨_,YK ho (by have:=hr.un; omega),Xd⟩
def Yr(i j:Int):Bool:=decide ((-(2 ^ 64) < i∧i < 2 ^ 64)∨(-(2 ^ 64) < j∧j < 2 ^ 64))
end FD
namespace FD
open PySem L2 PyProof.Rows PySem.Spec
def EC(i j:Int):Bool:=Td i j || Yr i j
abbrev XJ(i j:Int):Prop:=i.natAbs.log2 + j.natAbs.log2 < 1000000∨CMul i j
theorem V3{X:Cx}:OpR X (binaryOp .Mult) (rI XJ fun i j=>.int (i * j)):=opI fun i j _ _ _ _ _ hc q=>by
 rcases hc with hc | hc
 ·exact mul_int q (CMulW.ok hc)
 ·exact mul_int q hc.ok
theorem Yd{i j:Int}(h:EC i j=true):XJ i j:=by
 unfold EC at h
 rw [Bool.or_eq_true] at h
 rcases h with h | h
 ·exact .inl (of_decide_eq_true h)
 ·unfold Yr at h
  have h2:=of_decide_eq_true h
  exact .inr h2
section
variable {X:Cx} {W:WX} {S:List Nat} {a b:Expr} {pos:Pos} {fa fb:Env→Out Dt} {ga gb:Env→XO Dt} {la lb:List Nat}
theorem ER(ha:Bp X W a fa la)(hb:Bp X W b fb lb):Bp X W (.BinOp a .Mult b pos) (e2 fa fb (gI EC (· * ·))) []:=by
 obtain ⟨ta,pa,da⟩:=ha
 obtain ⟨tb,pb,db⟩:=hb
 exact ⟨_,pe_op V3 pa pb,Md (Pb fun i j h=>Yd h) Ja da db⟩
end
end FD
namespace LiI
open PySem L2 PySem.Spec PyProof.Rows
def rItD:V→Hp→VK→Prop:=fun v H Q=>∃ (a:Addr) (es:List (Key × V)),v=.ref a∧Rd H a (.dK es) ∧
 ∀ (G:Hp) (q:Addr) (us:List Addr),(∀ c u,H c=some u→G c=some u)→H q=none→(∀ u∈us,H u=none)→q∉us→G q=some (.lst (us.map V.ref))→Paired (fun (u:Addr) (z:Key × V)=>G u=some (.tup [kV z.1,z.2])) us es→Q (.ref q) G
def YS(t:TE):TE:=fun σ H Q=>t σ H fun v G=>rItD v G Q
theorem YU{X:Cx}{a:Expr}{t:TE}{q1 q2 q3 q4:Pos}(ca:X.calm=true)(pa:PE X a t)(gl:Gl X "list")(no:X.mg "list" = none)(b1:attributeBase a "items" X.env (eval a X.env)=eval a X.env:=by rfl)(ln:(q2.endLine == q3.line)=true:=by rfl)
  (st:starEach [.Call (.Attribute a "items" q2) [] [] q3] X.env=(false,eval (.Call (.Attribute a "items" q2) [] [] q3) X.env) :: starEach [] X.env:=by rfl):
  PE X (.Call (.Name "list" q1) [.Call (.Attribute a "items" q2) [] [] q3] [] q4) (YS t):=by
 constructor
 intro pins s σ H Q I go
 refine wpAny_Call_Name_kw (ld_blt I gl no PyProof.Rows.boot_list ?_)
 refine PyProof.Rows.callWith_type1 ?_ st rfl
 rw [st]
 show wpAny _ _ (spliced ((false,eval (.Call (.Attribute a "items" q2) [] [] q3) X.env) :: backTo q4 (starEach [] X.env))) _ _ s
 refine Calls.spliced_cons (wpAny_Call_method (T:="dict") (id:="dict.items") b1 rfl ln F.plainAttrs_dict F.slot_dict_items F.type_dict_items (thn (pa.run pins s σ H _ I go) fun u s1 ⟨v,G,J,rv,d,es,ev,rd,k⟩=>?_))
 subst ev
 obtain rfl:u=Value.ref d:=rv
 obtain ⟨w1,w2,vs,kv,od⟩:=rd.ok J.hok
 obtain ⟨ep,E3⟩:=od.dictAt
 have ll:es.length=vs.length:=Paired.length kv
 have J2:Inv X pins σ G { s1 with heap:=s1.heap.push { cls:=.type "dict_items",data:=.fields #[.ref d] } }:=J.kept (t':=s1.toks) fun b ob e=>Heap.get?_push_of_some _ e
 refine ⟨od.typeIs,od.mapOf.noDict,?_⟩
 show wpAny _ _ (callWith q3 (.builtin "dict.items") [.ref d] [] []) _ X.xe s1
 refine method_meetsIn F.slot_dict_items F.entry_dict_items rfl (PySem.evalArgs_none ⟨rfl,od.typeIs,F.args_dict_items_1 _,_,meets_dict_items (mixKind X.prog X.w) d w2,⟨vs,od⟩,Calls.spliced_nil ?_⟩)
 refine PySem.W.kdx_call (knd:=mixKind X.prog X.w) (kvs:=vs) (ep:=ep) (J.ok.hd ca) ⟨_,Heap.get?_push_size _ rfl,rfl,rfl⟩ (E3.push _) (by omega) fun h' tk acc c bs keep hS hl hG hacc=>?_
 obtain ⟨G',k1,k2,k3,k4,k5,k6,J3⟩:=items_laid (tk:=tk) J2 w1 kv keep hS hl hG hacc
 exact ⟨.ref _,G',J3,rfl,k G' _ _ k1 k2 k3 k4 k5 k6⟩
end LiI
namespace FD
open PySem L2 PyProof.Rows PySem.Spec
def Vp(ks:List Key)(ds:List Dt):List Dt:=(ks.zip ds).map fun z=>.tup [Iq z.1,z.2]
def Qs:Dt→Option (List Dt)
 | .dic ks ds=>some (Vp ks ds)
 | _=>none
def Cu(f:Env→Out Dt):Env→Out (List Dt):=fun ρ=>(f ρ).bind fun a=>DY (Qs a)
theorem Jn{f:Env→Out Dt}{ρ:Env}:Cu f ρ=(f ρ).bind fun a=>DY (Qs a):=rfl
theorem FN{κ:KM}{G:Hp}{A:Ad}:∀ {kvs:List (Key × V)} {ds:List Dt} {us:List Addr},Ag κ G A ds (kvs.map (·.2))→Paired (fun (u:Addr) (z:Key × V)=>G u=some (.tup [kV z.1,z.2])) us kvs→(∀ u∈us,¬ A u)→Ag κ G A (Vp (kvs.map (·.1)) ds) (us.map V.ref)
 | [],ds,[],r,.nil,_=>by
  unfold Vp
  rw [List.map_nil,List.zip_nil_left]
  exact Ag.nil
 | z :: kvs,[],us,r,_,_=>by
  unfold Ag at r
  exact nomatch r
 | z :: kvs,d :: ds,u :: us,r,.cons h t,hA=>by
  unfold Ag at r
  obtain ⟨v,vs,e,r1,r2⟩:=r
  rw [List.map_cons] at e
  obtain ⟨ev,es⟩:=List.cons.inj e
  subst ev es
  show Ag κ G A (Dt.tup [Iq z.1,d] :: Vp (kvs.map (·.1)) ds) (V.ref u :: us.map V.ref)
  refine Ag.cons ?_ (FN r2 t fun u hu=>hA u (List.mem_cons_of_mem _ hu))
  unfold Rep
  exact ⟨u,_,rfl,.inl ⟨hA u List.mem_cons_self,h⟩,Ag.cons (Lj _) (Ag.cons r1 Ag.nil)⟩
section
variable {K:PySem.W.Frag} {W:WX} {la:List Nat}
theorem MP{t:TE}{f:Env→Out Dt}(ha:DZ K W t f la):VB K W (LiI.YS t) (Cu f) la:=by
 intro μ H0 A0 ρ σ H Q s h
 refine ha _ _ _ _ _ _ _ s (h.seq fun a ea h1 v1 H1 s1 r1=>?_)
 clear ea
 obtain ⟨ds,e,q⟩:=Bt h1
 cases a <;> try (cases e; done)
 rename_i ks es
 cases e
 obtain ⟨a,kvs,rfl,g1,g2,g3⟩:=FA r1
 subst g2
 refine ⟨a,kvs,rfl,g1,fun G p us keep hp hu hpu hG hpair=>?_⟩
 refine q p _ G (s1.trans keep) (s1.free hp) hG (FN ((Ag.fresh hp _ _ g3).same keep) hpair fun u hu'=>?_)
 rintro (z | z)
 ·exact s.MJ (s1.free (hu u hu')) z
 ·exact hpu (z ▸ hu')
end
theorem HF{X:Cx}{W:WX}{a:Expr}{f:Env→Out Dt}{la:List Nat}{q1 q2 q3 q4:Pos}(ca:X.calm=true)(ha:Bp X W a f la)(gl:Gl X "list")(no:X.mg "list" = none)(b1:attributeBase a "items" X.env (eval a X.env)=eval a X.env:=by rfl)(ln:(q2.endLine == q3.line)=true:=by rfl)
  (st:starEach [.Call (.Attribute a "items" q2) [] [] q3] X.env=(false,eval (.Call (.Attribute a "items" q2) [] [] q3) X.env) :: starEach [] X.env:=by rfl):Ts X W (.Call (.Name "list" q1) [.Call (.Attribute a "items" q2) [] [] q3] [] q4) (Cu f) la:=by
 obtain ⟨t,p,d⟩:=ha
 exact ⟨_,LiI.YU ca p gl no b1 ln st,MP d⟩
end FD
namespace FD
open PySem L2 PyProof.Rows PySem.Spec
def B4:List Dt→Option Dt
 | [.dic ks ds]=>some (.dic ks ds)
 | _=>none
theorem Pj{K:PySem.W.Frag}:P9 K (fun xs H Q=>∃ (a:Addr) (kvs:List (Key × V)),xs=[.ref a]∧Rd H a (.dK kvs)∧∀ p,H p=none→Q (.ref p) (upd H p (.dK kvs))) B4:=by
 intro μ H A ds d vs Q ha r e q
 unfold B4 at e
 split at e
 ·rename_i ks es
  cases e
  obtain ⟨v,rfl,rr⟩:=B5 r
  obtain ⟨a,kvs,rfl,g1,g2,g3⟩:=FA rr
  refine ⟨a,kvs,rfl,g1,fun p hp=>q _ _ (Same.new hp) ?_⟩
  unfold Rep
  exact ⟨p,kvs,rfl,fun z=>by have:=ha p z; rw [hp] at this; exact this,.inl upd_same,g2,g3.same (Same.new hp)⟩
 ·cases e
def G7(i:Nat)(f:Env→Out (List Dt))(lk:List Nat):Env→SOut:=fun ρ=>F8 (f ρ) ρ fun ds=>match ds with
 | [.dic ks es]=>if Dt.CA es=true then .ok .nx (ρ.set i (some (.od ks es))) else .ok .nx ((frz lk ρ).set i (some (.od ks es)))
 | _=>.bad
section
variable {K:PySem.W.Frag} {W:WX} {la lb lk:List Nat}
theorem Qv{ta:TA}{f:Env→Out (List Dt)}{i:Nat}(ha:Q1 K W ta f la):F7 K W (tAsg (tCB (fun xs H Q=>∃ (a:Addr) (kvs:List (Key × V)),xs=[V.ref a]∧Rd H a (.dK kvs)∧∀ p,H p=none→Q (V.ref p) (upd H p (.dK kvs))) ta) (gName i)) (G7 i f la):=by
 intro μ H0 A0 ρ σ H D s h
 unfold G7 at h
 refine ha _ _ _ _ _ _ _ s (AK.st s h fun ds _ h2 vs H1 s1 r1=>?_)
 split at h2
 ·rename_i ks es _
  obtain ⟨v,rfl,rr⟩:=B5 r1
  obtain ⟨a,kvs,rfl,g1,g2,g3⟩:=FA rr
  refine ⟨a,kvs,rfl,g1,fun p hp=>?_⟩
  have hS:Same H (upd H1 p (.dK kvs)):=s1.trans (Same.new hp)
  split at h2
  ·rename_i hpu
   have sg:=s.grow s1
   have r4:=Ag.pure (A':=Av ⟨K,μ⟩ A0 ρ σ []) (fun a z=>sg.Ez z) es _ hpu g3
   exact h2 _ _ _ (Xt.refl _) (s.Uv (i:=i) (lk:=[]) (p:=p) hS (s1.free hp) upd_same g2 ((Ag.fresh hp _ _ r4).same (Same.new hp)))
  ·exact h2 _ _ _ (Xt.refl _) (s.Uv (i:=i) (lk:=la) (p:=p) hS (s1.free hp) upd_same g2 ((Ag.fresh hp _ _ g3).same (Same.new hp)))
 ·exact False.elim h2
end
section
variable {X:Cx} {W:WX} {S:List Nat} {e:Expr} {fs:Env→Out (List Dt)} {gs:Env→XO (List Dt)} {lk:List Nat} {p pos:Pos}
theorem Ly(hg:Gl X "dict")(hm:X.mg "dict" = none)(ha:JR X W [e] fs lk)(he:starEach [e] X.env=(false,eval e X.env) :: starEach [] X.env:=by rfl):Bp X W (.Call (.Name "dict" p) [e] [] pos) (eB B4 fs) lk:=by
 obtain ⟨ta,pa,da⟩:=ha
 exact ⟨_,pe_callTy call_dictD hg hm (by decide +kernel) pa (by decide) (by decide) he rfl,R8 Pj da⟩
theorem Vq(hg:Gl X "dict")(hm:X.mg "dict" = none)(ha:Y0 X W S [e] gs lk)(he:starEach [e] X.env=(false,eval e X.env) :: starEach [] X.env:=by rfl):F3 X W S (.Call (.Name "dict" p) [e] [] pos) (xB B4 gs) lk:=by
 obtain ⟨ta,pa,da⟩:=ha
 exact ⟨_,pe_callTy call_dictD hg hm (by decide +kernel) pa (by decide) (by decide) he rfl,ah Pj da⟩
theorem UY(i:Nat){x:Str}{pos':Pos}(hg:Gl X "dict")(hm:X.mg "dict" = none)(ha:JR X W [e] fs lk)(hN:X.N.Nodup)(he:starEach [e] X.env=(false,eval e X.env) :: starEach [] X.env:=by rfl)(hi:X.N[i]? = some x:=by rfl)(hx:Loc X.env.scope x:=by first | exact Or.inl rfl | exact Or.inr rfl)
  (hs:swapsWith (.Call (.Name "dict" p) [e] [] pos) (some (.Name x pos')) pos.line X.env=pure false:=by rfl) (hf:X.fn x=true∨X.env.scope.names.lookup x=some .local:=by first | exact .inl rfl | exact .inr rfl | assumption) {q:Pos} (hs2:swapsWith (.Call (.Name "dict" p) [e] [] pos) (some (.Name x pos')) q.line X.env=pure false:=by rfl):Kd X W (.Assign [.Name x pos'] (.Call (.Name "dict" p) [e] [] pos) q) (G7 i fs lk):=by
 obtain ⟨ta,pa,da⟩:=ha
 exact ⟨_,ps_set hN hi hx (pe_callTy call_dictD hg hm (by decide +kernel) pa (by decide) (by decide) he rfl) hs2 hf,Qv da⟩
end
end FD
namespace FD
open PySem L2 PyProof.Rows PySem.Spec
section
variable {K:PySem.W.Frag} {W:WX} {S:List Nat} {la lb lk:List Nat}
theorem Tu:DZ K W tDNewK (eC (.dic [] [])) []:=by
 intro μ H0 A0 ρ σ H Q s h
 intro p hp
 refine h _ _ (Same.new hp) ?_
 unfold Rep
 exact ⟨p,[],rfl,s.MJ hp,.inl upd_same,rfl,Ag.nil⟩
abbrev rIns:V→List V→Hp→VK→Prop:=fun x vs H Q=>∃ (l:Addr) (xs:List V) (i:Int) (y:V),x=.ref l∧vs=[.int i,y]∧H l=some (.lst xs)∧xs.length < sizeLine∧0≤i∧i < 2 ^ 63 ∧
 Q .non (upd H l (.lst (xs.take i.toNat ++ [y] ++ xs.drop i.toNat)))
def CU(i:Nat)(f:Env→XO (List Dt))(lk:List Nat):Env→SOut:=fun ρ=>match ρ[i]? with
 | some (some (.ol _))=>xE (f ρ) fun es ρ1=>(match es with
  | [.int j,d]=>(match (AI d lk ρ1)[i]? with
   | some (some (.ol ds))=>if ds.length < 16777216∧0≤j∧j≤16777216 then .ok .nx ((AI d lk ρ1).set i (some (.ol (ds.take j.toNat ++ [d] ++ ds.drop j.toNat)))) else .bad
   | _=>.bad)
  | _=>.bad)
 | _=>.bad
theorem PZ{ta:TA}{f:Env→XO (List Dt)}{i:Nat}(ha:Xy K W S ta f la)(hi:i∉S):F7 K W (tDrop (tBM K "list" rIns (tVar i) ta)) (CU i f la):=by
 intro μ H0 A0 ρ σ H D s h
 unfold CU at h
 split at h
 ·rename_i ds0 e0
  obtain ⟨a,vs,e1,h0,h1,r0⟩:=s.lo i _ e0
  refine ⟨_,e1,.inl ⟨rfl,vs,SqL.of h1⟩,?_⟩
  refine ha _ _ _ _ _ _ _ s (AK.xt h fun es ρ1 _ h2 μ1 ws H1 c1 s1 r1=>?_)
  split at h2
  ·rename_i j d _
   obtain ⟨v,u,rfl,ri,rd⟩:=PY r1
   have ev:v=.int j:=ri
   subst ev
   obtain ⟨s2,r2⟩:=s1.O7 rd
   split at h2
   ·rename_i ds e2
    split at h2
    ·rename_i hl
     obtain ⟨a',vs',e3,h0',h1',r3⟩:=s2.lo i _ e2
     rw [e1] at e3
     cases e3
     refine ⟨a,vs',j,u,rfl,rfl,h1',by rw [r3.length,sizeLine_eq]; exact hl.1,hl.2.1,by omega,?_⟩
     exact h2 _ _ _ c1.xt (s2.Y1 e2 e1 (Ag.append (Ag.append (Ag.take _ r3) (Ag.cons r2 Ag.nil)) (Ag.drop _ r3)))
    ·exact False.elim h2
   ·exact False.elim h2
  ·exact False.elim h2
 ·exact False.elim h
end
section
variable {X:Cx} {W:WX} {S:List Nat} {a e:Expr} {fs:Env→XO (List Dt)} {lk:List Nat} {p pos:Pos}
theorem PH:Bp X W (.Dict [] [] p) (eC (.dic [] [])) []:=⟨_,pe_dnewK,Tu⟩
theorem MQ(i:Nat){x:Str}{p1 p2 p3:Pos}(h:Y0 X W S [a,e] fs lk)(hi:i∉S:=by decide)(hN:X.N[i]? = some x:=by rfl)(hv:Vis X.env.scope x:=by first | exact Or.inl rfl | exact Or.inr (Or.inl rfl) | exact Or.inr (Or.inr rfl))(hd:(x == ("__debug__" : Str))=false:=by decide)
  (hcd:(x == ("__classdict__" : Str))=false:=by decide) (hs:starEach [a,e] X.env=(false,eval a X.env) :: starEach [e] X.env:=by rfl) (hbase:attributeBase (.Name x p1) "insert" X.env (eval (.Name x p1) X.env)=eval (.Name x p1) X.env:=by rfl)
  (hfew:((backTo p3 (starEach [a,e] X.env)).all (fun x=>!x.1) && (backToKw p3 (keywordEach [] X.env)).all (fun x=>x.1.isSome)
   && decide (([a,e]:List Expr).length + ([]:List Keyword).length + (if ([]:List Keyword).isEmpty then 0 else 1) < 30))=true:=by rfl) (hline:(p2.endLine == p3.line)=true:=by rfl) (hsw:swapsWith (.Call (.Attribute (.Name x p1) "insert" p2) [a,e] [] p3) none pos.line X.env=pure false:=by rfl)
  (hpl:(backTo p3 (starEach [e] X.env)).any (·.1)=false:=by rfl):Kd X W (.Expr (.Call (.Attribute (.Name x p1) "insert" p2) [a,e] [] p3) pos) (CU i fs lk):=by
 obtain ⟨t,p,d⟩:=h
 exact ⟨_,ps_expr (pe_bm PySem.F.plainAttrs_list PySem.F.slot_list_insert PySem.F.type_list_insert mt_insert (pe_var hN hv hd hcd) p hbase hfew hline hs hpl) hsw,PZ d hi⟩
end
end FD
namespace FD
open PySem L2 L2N PyProof.Rows PySem.Spec
def X2(K:PySem.W.Frag)(c:Value)(i:Nat)(ts:Addr→Value→Option Addr→TS)(D:Ends):WX:=fun cls d σ H=>
 PySem.W.exmOne K cls c=some true∧∀ a,H a=none→ts a cls d { nx:=fun σ' H'=>D.nx (σ'.set i none) H',rt:=D.rt,bk:=fun σ' H'=>D.bk (σ'.set i none) H',ct:=fun σ' H'=>D.ct (σ'.set i none) H' } (σ.set i (some (.ref a))) H
section
variable {X:Cx} {x n:Str} {c:Value} {i:Nat} {body suite:List Stmt} {b₀:Stmt} {more:List ExceptHandler} {np pos pos':Pos} {tb:WX→TS} {ts:Addr→Value→Option Addr→TS}
theorem Qo(hs:X.stack=X.env :: X.outer)(hf:X.env.frame=some X.env.locals)(hN:X.N.Nodup)(hi:X.N[i]? = some n)(hln:X.env.kindOf n=some .local)(hc:Names X x c)
  (hb:∀ (W:WX) (pn:List (Addr × Obj)) (xe:Value→Shared→Prop),L2N.Takes (X.tr pn xe) W→PassesOwn (model X.prog X.w) X.A X.env xe→PSs (X.tr pn xe) body (tb W))
  (hsu:∀ (a:Addr) (oe:Obj) (cls:Value) (d:Option Addr) (pn:List (Addr × Obj)),L2N.Zn cls d oe→(∃ vs,oe.data=.fields vs)→PSs (X.suite a ((a,oe) :: pn)) (b₀ :: suite) (ts a cls d)):
  PS X (.Try body (.ExceptHandler (some (.Name x np)) (some n) (b₀ :: suite) pos' :: more) [] [] pos) (fun D σ H=>tb (X2 X.K c i ts D) D σ H):=by
 refine ⟨fun pins s σ H D I h=>?_⟩
 have ok:=I.ok
 have hfr:X.A.frames=some (X.env :: X.outer):=by rw [ok.frames,hs]
 have hloc:Loc X.env.scope n:=.inl hln
 refine wpAny_Try_except ?_
 refine wpAny_mono ((hb (X2 X.K c i ts D) (X.pn ++ pins) (fun e s₁=>wpAny (model X.prog X.w) X.A (noteFrame e X.env) (fun _ s₂=>wpAny (model X.prog X.w) X.A (setFlight e none) (fun _ s₃=>
  wpAny (model X.prog X.w) X.A (handleBy e X.env (.ExceptHandler (some (.Name x np)) (some n) (b₀ :: suite) pos' :: more)) (SP X pins D) X.xe s₃) X.xe s₂) X.xe s₁) (fun u s' xx=>?_) PassesOwn.looking).run [] s σ H D (I.toTry _) h) (fun f s1 hsp=>?_) (fun e s1 he=>he)
 case refine_2=>
  cases f with
  | ret u=>
   obtain ⟨v,σ',H',J',r,q⟩:=hsp
   exact ⟨v,σ',H',J'.ofTry ok,r,q⟩
  | next=>
   obtain ⟨σ',H',J',q⟩:=hsp
   exact wpAny_execs_nil ⟨σ',H',J'.ofTry ok,q⟩
  | brk=>
   obtain ⟨σ',H',J',q⟩:=hsp
   exact ⟨σ',H',J'.ofTry ok,q⟩
  | cont=>
   obtain ⟨σ',H',J',q⟩:=hsp
   exact ⟨σ',H',J'.ofTry ok,q⟩
 obtain ⟨a,B,sI,pins',σ',H',cls,d,rfl,J',nb,up,sky,na,os,ag,hb1,hyes⟩:=xx
 have J:Inv X pins σ' H' sI:=J'.ofTry ok
 have sky':Sky B (X.env :: X.outer) a (Zn cls d) X.env.locals s'.heap:=by rw [← hs]; exact sky
 show wpAny (model X.prog X.w) X.A (noteFrame (.ref a) X.env) _ _ _
 refine Sky.land Zn.steady hfr hf sky' fun h3 fl3 up3=>?_
 have J3:Inv X pins σ' H' { s' with heap:=h3 }:=J.landed nb fl3.1 (up.trans up3) os ag
 obtain ⟨oe3,vs3,he3,hz3,hd3⟩:=fl3.there
 have nfr:a∉frs (X.env :: X.outer):=fun hm=>by
  obtain ⟨_,o',e',hnf⟩:=fl3.2.2.1.mem hm
  rw [he3] at e'; cases e'
  exact hnf _ hd3
 have nL:a≠X.env.locals:=fun z=>nfr (List.mem_filterMap.mpr ⟨X.env,List.mem_cons_self,by rw [hf,z]⟩)
 have nF:a∉X.fs:=fun hm=>by
  obtain ⟨e,he,q⟩:=List.mem_filterMap.mp hm
  exact nfr (List.mem_filterMap.mpr ⟨e,List.mem_cons_of_mem _ he,q⟩)
 have S3:=J3.suite he3 hd3 na nL nF
 refine wpAny_handleBy_cons (codeAny_handlers_test ?_) (by intro q; cases q)
 have LT:PySem.W.Looks (model X.prog X.w) h3 (typeOf (.ref a)) cls:=fun A Q E s k q=>wpAny_typeOf_ref (k _ _ he3) (by rw [hz3.1]; exact q)
 have LM:=PySem.W.exm_one (M:=model X.prog X.w) (J3.kIn) LT hb1
 have test:∀ {Q:Value→Shared→Prop} {E:Value→Shared→Prop},Q c { s' with heap:=h3 }→wpAny (model X.prog X.w) (X.A.mark (some (.ref a))) (eval (.Name x np) X.env) Q E { s' with heap:=h3 }:=fun {Q E} q=>by
  obtain ⟨hg,hdbg,hm | ⟨hm,hv,hnn⟩⟩:=hc
  ·exact ld_glob (X:=X.suite a ((a,oe3) :: (X.pn ++ pins))) S3 hg hm q hdbg
  ·exact ld_blt (X:=X.suite a ((a,oe3) :: (X.pn ++ pins))) S3 hg hm hv q hnn hdbg
 refine test (LM.here ?_)
 refine codeAny_handlers_suite_as ?_
 refine HandSPX.lands_againZ fl3 fun h4 fl4 up4=>?_
 have J4:Inv X pins σ' H' { s' with heap:=h4 }:=J.landed nb fl4.1 ((up.trans up3).trans up4) os ag
 obtain ⟨oe4,vs4,he4,hz4,hd4⟩:=fl4.there
 have S4:=J4.suite he4 hd4 na nL nF
 refine store_ok (X:=X.suite a ((a,oe4) :: (X.pn ++ pins))) (v:=.ref a) S4 hN hi hloc rfl (fun s5 S5=>?_) (.inr hln)
 refine wpAny_mono ((hsu a oe4 cls d (X.pn ++ pins) hz4 ⟨_,hd4⟩).run [] s5 _ H' _ S5 (hyes a na)) (fun f s6 hsp=>?_) (fun _ _ z=>False.elim z)
 have end_:∀ {σ6:L2.St} {H6:Hp} {Q:Shared→Prop},Inv (X.suite a ((a,oe4) :: (X.pn ++ pins))) [] σ6 H6 s6→(∀ s7,Inv X pins (σ6.set i none) H6 s7→Q s7) →
   wpAny (model X.prog X.w) X.A (do bindName X.env n .none; unbindBehindTheSuite X.env n pos') (fun _ s7=>Q s7) X.xe s6:=fun {σ6 H6 Q} S6 hq=>gone_ok (S6.unsuite ok) hN hi hln hq
 cases f with
 | ret u=>
  obtain ⟨v6,σ6,H6,S6,r6,q6⟩:=hsp
  exact end_ S6 fun s7 J7=>⟨_,_,_,J7,r6,q6⟩
 | next=>
  obtain ⟨σ6,H6,S6,q6⟩:=hsp
  exact end_ S6 fun s7 J7=>⟨_,_,J7,q6⟩
 | brk=>
  obtain ⟨σ6,H6,S6,q6⟩:=hsp
  exact end_ S6 fun s7 J7=>⟨_,_,J7,q6⟩
 | cont=>
  obtain ⟨σ6,H6,S6,q6⟩:=hsp
  exact end_ S6 fun s7 J7=>⟨_,_,J7,q6⟩
end
noncomputable def FU(K:PySem.W.Frag)(Ds:List Addr)(c:Value)(i:Nat)(g:Env→SOut)(h:Addr→Option Addr→Addr→Env→SOut):Env→SOut:=fun ρ=>match g ρ with
 | .exc x ρ1=>if PySem.W.exmOne K (.ref x.cls) c=some true then (if x.cls∈Ds then FJ x fun a d=>unset i (h a d x.cls (ρ1.set i (some (.sh (P8 x a d))))) else .bad) else .bad
 | o=>o
theorem QV{K:PySem.W.Frag}{Ds:List Addr}{c:Value}{i:Nat}{g:Env→SOut}{h:Addr→Option Addr→Addr→Env→SOut}{ρ:Env}:FU K Ds c i g h ρ=match g ρ with
 | .exc x ρ1=>if PySem.W.exmOne K (.ref x.cls) c=some true then (if x.cls∈Ds then FJ x fun a d=>unset i (h a d x.cls (ρ1.set i (some (.sh (P8 x a d))))) else .bad) else .bad
 | o=>o:=rfl
section
variable {K:PySem.W.Frag} {κ:KM} {μ:Mu} {W:WX} {H0 H H1:Hp} {A0:Ad} {ρ:Env} {σ:L2.St} {lk la lb:List Nat}
theorem QO{Ds:List Addr}{c:Value}{i:Nat}{g:Env→SOut}{h:Addr→Option Addr→Addr→Env→SOut}:
  F7 K W (fun D σ H=>cS K (X2 K c i (fun a cls d D σ H=>∃ C:Addr,cls=.ref C∧C∈Ds∧cS K W0 (h a d C) D σ H) D) g D σ H) (FU K Ds c i g h):=by
 intro μ H0 A0 ρ σ H D s hq
 refine ⟨μ,H0,A0,ρ,s,?_⟩
 unfold FU at hq
 cases e:g ρ with
 | ok f ρ1=>
  rw [e] at hq
  cases f <;> exact hq
 | bad=>rw [e] at hq; exact hq
 | exc x ρ1=>
  rw [e] at hq
  intro μ1 σ1 H1 cv od y1 s1 ex
  obtain ⟨rfl,ex2⟩:=id ex
  simp only at hq
  by_cases em:PySem.W.exmOne K (.ref x.cls) c=some true
  case neg=>rw [if_neg em] at hq; exact False.elim hq
  rw [if_pos em] at hq
  by_cases hD:x.cls∈Ds
  case neg=>rw [if_neg hD] at hq; exact False.elim hq
  rw [if_pos hD] at hq
  refine ⟨em,fun a na=>⟨x.cls,rfl,hD,μ1,H0,A0,ρ1.set i (some (.sh (P8 x a od))),s1.put (WC (fun a z=>s1.Ez z) ex),?_⟩⟩
  have hb:FJ x (fun a d=>unset i (h a d x.cls (ρ1.set i (some (.sh (P8 x a d))))))≠.bad:=fun z=>by
   rw [z] at hq
   exact hq
  have ea:=SK hb a od (fun z=>by
   subst z
   exact ex2.2)
  rw [← ea] at hq
  cases eo:h a od x.cls (ρ1.set i (some (.sh (P8 x a od)))) with
  | ok f ρ2=>
   rw [eo] at hq
   cases f with
   | nx=>exact fun μ' σ' H' y s'=>hq μ' _ _ (y1.trans y) (s'.gone i)
   | bk=>exact fun μ' σ' H' y s'=>hq μ' _ _ (y1.trans y) (s'.gone i)
   | ct=>exact fun μ' σ' H' y s'=>hq μ' _ _ (y1.trans y) (s'.gone i)
   | rt d=>exact fun μ' v σ' H' y s' r=>hq μ' v _ H' (y1.trans y) (s'.gone i) (r.Bv fun a z=>z.imp id fun ⟨j,n,l,e,ho⟩=>⟨j,n,V5 e ho⟩)
  | exc y ρ2=>rw [eo] at hq; exact False.elim hq
  | bad=>rw [eo] at hq; exact False.elim hq
end
section
variable {X:Cx} {W:WX} {x n:Str} {c:Value} {i:Nat} {body suite:List Stmt} {b₀:Stmt} {more:List ExceptHandler} {np pos pos':Pos} {g:Env→SOut}
theorem UE{h:Addr→Option Addr→Addr→Env→SOut}(i:Nat)(Ds:List Addr)(hs:X.stack=X.env :: X.outer)(hf:X.env.frame=some X.env.locals)(hN:X.N.Nodup)(hc:Names X x c)
  (hb:∀ (W:WX) (pn:List (Addr × Obj)) (xe:Value→Shared→Prop),L2N.Takes (X.tr pn xe) W→PassesOwn (model X.prog X.w) X.A X.env xe→F0 (X.tr pn xe) W body g)
  (hsu:∀ (a:Addr) (oe:Obj) (C:Addr) (d:Option Addr) (pn:List (Addr × Obj)),C∈Ds→L2N.Zn (.ref C) d oe→(∃ vs,oe.data=.fields vs)→F0 (X.suite a ((a,oe) :: pn)) W0 (b₀ :: suite) (h a d C)) (hi:X.N[i]? = some n:=by rfl) (hln:X.env.kindOf n=some .local:=by rfl):
  Kd X W (.Try body (.ExceptHandler (some (.Name x np)) (some n) (b₀ :: suite) pos' :: more) [] [] pos) (FU X.K Ds c i g h):=
 ⟨_,Qo (tb:=fun W=>cS X.K W g) hs hf hN hi hln hc (fun W pn xe tk hp=>(hb W pn xe tk hp).Kl) fun a oe cls d pn hz hfl=>⟨fun pins s σ H D I ⟨C,e,hD,hq⟩=>by
  subst e
  exact (hsu a oe C d pn hD hz hfl).Kl.run pins s σ H D I hq⟩,QO⟩
end
end FD
namespace FD
open PySem L2 PyProof.Rows PySem.Spec
def Qy:List V→Hp→VK→Prop:=fun xs H Q=>∃ (a:Addr) (kvs:List (Key × V)),xs=[.ref a]∧Rd H a (.dK kvs)∧∀ q,H q=none→Q (.ref q) (upd H q (.lst (kvs.map fun kv=>kV kv.1)))
theorem L6{X:Cx}(hc:X.calm=true):CallR X (.type "list") Qy:=by
 intro pins s σ H xs us Q I r h
 obtain ⟨p,kvs,e,hk,q⟩:=h
 subst e
 obtain ⟨u,eu,rx⟩:=vals1 r
 subst eu
 obtain rfl:u=Value.ref p:=rx
 obtain ⟨z,lo,vs,rk,hd⟩:=hk.ok I.hok
 obtain ⟨ep,hat⟩:=hd.dictAt
 have hl:kvs.length=vs.length:=Paired.length rk
 refine PySem.W.kdl_call (PySem.W.kdl_dict (knd:=mixKind X.prog X.w) (kvs:=vs) (ep:=ep) lo) (I.ok.hd hc) hat (by rw [← hl]; exact z) fun h' tk acc' c' hkeep hS hacc=>?_
 refine ⟨.ref s.heap.objs.size,upd H s.heap.objs.size (.lst (kvs.map fun kv=>kV kv.1)),I.laid hkeep (Nat.le_refl _) (show ObjOk X.prog X.w _ _ _ (.lst (kvs.map fun kv=>kV kv.1)) from ⟨by rw [List.length_map]; exact z,acc'.toList,c',?_,by rw [Array.toArray_toList]; exact hS⟩),rfl,q _ (I.hok.fresh (Nat.le_refl _))⟩
 have el:acc'.toList.length=acc'.size:=by simp
 refine vals_of_at (by rw [List.length_map,el,hacc.1,hl]) fun j x w h1 h2=>?_
 obtain ⟨k,y,hky,hi⟩:=hacc.2 j w (by rw [← Array.getElem?_toList]; exact h2)
 have e1:(kvs.map (·.1))[j]? = some k:=by rw [KV.keys rk,List.getElem?_map,hky] <;> rfl
 have e2:(kvs.map fun kv=>kV kv.1)[j]? = some (kV k):=by
  rw [show (kvs.map fun kv=>kV kv.1)=(kvs.map (·.1)).map kV from by rw [List.map_map] <;> rfl,List.getElem?_map,e1] <;> rfl
 rw [e2] at h1
 cases h1
 exact keyIs_rel hi
def GY:List Dt→Option (List Dt)
 | [.dic ks _]=>some (ks.map Iq)
 | _=>none
theorem Ux{K:PySem.W.Frag}:CaL K Qy GY:=by
 intro μ H A ds es vs Q r e q
 unfold GY at e
 split at e
 ·cases e
  obtain ⟨v,rfl,rr⟩:=B5 r
  obtain ⟨a,kvs,rfl,g1,g2,g3⟩:=FA rr
  subst g2
  exact ⟨a,kvs,rfl,g1,fun p hp=>q p _ hp (Jt kvs)⟩
 ·cases e
section
variable {X:Cx} {W:WX} {e:Expr} {fs:Env→Out (List Dt)} {lk:List Nat} {p pos:Pos}
theorem U5(hc:X.calm=true)(hg:Gl X "list")(hm:X.mg "list" = none)(ha:JR X W [e] fs lk)(he:starEach [e] X.env=(false,eval e X.env) :: starEach [] X.env:=by rfl):Ts X W (.Call (.Name "list" p) [e] [] pos) (lB GY fs) lk:=by
 obtain ⟨ta,pa,da⟩:=ha
 exact ⟨_,pe_callTy (L6 hc) hg hm boot_list pa (by decide) (by decide) he rfl,XM Ux da⟩
end
end FD
namespace FD
open PySem L2 L2N PyProof.Rows PySem.Spec
abbrev MCl:=Value × Option Nat × (Addr→Value→Option Addr→TS)
inductive HdsA (X:Cx):List ExceptHandler→List MCl→Prop
 | nil:HdsA X [] []
 | plain {x:Str} {c:Value} {ts:Addr→Value→Option Addr→TS} {b₀:Stmt} {suite:List Stmt} {np pos':Pos} {hds:List ExceptHandler} {l:List MCl} (hc:Names X x c)
   (hsu:∀ (a:Addr) (oe:Obj) (cls:Value) (d:Option Addr) (pn:List (Addr × Obj)),L2N.Zn cls d oe→(∃ vs,oe.data=.fields vs)→PSs (X.suite a ((a,oe) :: pn)) (b₀ :: suite) (ts a cls d)) (r:HdsA X hds l):
   HdsA X (.ExceptHandler (some (.Name x np)) none (b₀ :: suite) pos' :: hds) ((c,none,ts) :: l)
 | named {x n:Str} {c:Value} {i:Nat} {ts:Addr→Value→Option Addr→TS} {b₀:Stmt} {suite:List Stmt} {np pos':Pos} {hds:List ExceptHandler} {l:List MCl} (hi:X.N[i]? = some n) (hln:X.env.kindOf n=some .local) (hc:Names X x c)
   (hsu:∀ (a:Addr) (oe:Obj) (cls:Value) (d:Option Addr) (pn:List (Addr × Obj)),L2N.Zn cls d oe→(∃ vs,oe.data=.fields vs)→PSs (X.suite a ((a,oe) :: pn)) (b₀ :: suite) (ts a cls d)) (r:HdsA X hds l):
   HdsA X (.ExceptHandler (some (.Name x np)) (some n) (b₀ :: suite) pos' :: hds) ((c,some i,ts) :: l)
section
variable {X:Cx} {body:List Stmt} {h₀:ExceptHandler} {hds:List ExceptHandler} {l:List MCl} {pos:Pos} {tb:WX→TS} {Wout:WX}
end
abbrev Zu:=Value × Option Nat × (Addr→Option Addr→Addr→Env→SOut)
def tsA(K:PySem.W.Frag)(Ds:List Addr)(h:Addr→Option Addr→Addr→Env→SOut):Addr→Value→Option Addr→TS:=fun a cls d D σ H=>∃ C:Addr,cls=.ref C∧C∈Ds∧cS K W0 (h a d C) D σ H
section
variable {K:PySem.W.Frag} {κ:KM} {μ:Mu} {W:WX} {H0 H H1:Hp} {A0:Ad} {ρ:Env} {σ:L2.St} {lk la lb:List Nat}
end
inductive HdsF (X:Cx) (Ds:List Addr):List ExceptHandler→List Zu→Prop
 | nil:HdsF X Ds [] []
 | plain {x:Str} {c:Value} {h:Addr→Option Addr→Addr→Env→SOut} {b₀:Stmt} {suite:List Stmt} {np pos':Pos} {hds:List ExceptHandler} {l:List Zu} (hc:Names X x c)
   (hsu:∀ (a:Addr) (oe:Obj) (C:Addr) (d:Option Addr) (pn:List (Addr × Obj)),C∈Ds→L2N.Zn (.ref C) d oe→(∃ vs,oe.data=.fields vs)→F0 (X.suite a ((a,oe) :: pn)) W0 (b₀ :: suite) (h a d C)) (r:HdsF X Ds hds l):
   HdsF X Ds (.ExceptHandler (some (.Name x np)) none (b₀ :: suite) pos' :: hds) ((c,none,h) :: l)
 | named {x n:Str} {c:Value} (i:Nat) {h:Addr→Option Addr→Addr→Env→SOut} {b₀:Stmt} {suite:List Stmt} {np pos':Pos} {hds:List ExceptHandler} {l:List Zu} (hc:Names X x c)
   (hsu:∀ (a:Addr) (oe:Obj) (C:Addr) (d:Option Addr) (pn:List (Addr × Obj)),C∈Ds→L2N.Zn (.ref C) d oe→(∃ vs,oe.data=.fields vs)→F0 (X.suite a ((a,oe) :: pn)) W0 (b₀ :: suite) (h a d C)) (r:HdsF X Ds hds l)
   (hi:X.N[i]? = some n:=by rfl) (hln:X.env.kindOf n=some .local:=by rfl):
   HdsF X Ds (.ExceptHandler (some (.Name x np)) (some n) (b₀ :: suite) pos' :: hds) ((c,some i,h) :: l)
section
variable {X:Cx} {W:WX} {body:List Stmt} {h₀:ExceptHandler} {hds:List ExceptHandler} {l:List Zu} {pos:Pos} {g:Env→SOut}
theorem HdsF.up{Ds:List Addr}:∀ {hds:List ExceptHandler} {l:List Zu},HdsF X Ds hds l→HdsA X hds (l.map fun q=>(q.1,q.2.1,tsA X.K Ds q.2.2))
 | _,_,.nil=>.nil
 | _,_,.plain hc hsu r=>.plain hc (fun a oe cls d pn hz hfl=>⟨fun pins s σ H D I ⟨C,e,hD,hq⟩=>by
   subst e
   exact (hsu a oe C d pn hD hz hfl).Kl.run pins s σ H D I hq⟩) r.up
 | _,_,.named i hc hsu r hi hln=>.named hi hln hc (fun a oe cls d pn hz hfl=>⟨fun pins s σ H D I ⟨C,e,hD,hq⟩=>by
   subst e
   exact (hsu a oe C d pn hD hz hfl).Kl.run pins s σ H D I hq⟩) r.up
end
end FD
namespace FD
open PySem L2 PyProof.Rows PySem.Spec
section
variable {X:Cx} {W:WX} {S:List Nat} {st:Stmt} {e o:Expr} {es:List Expr} {fs:Env→Out (List Dt)} {fo:Env→Out Dt} {lk la:List Nat} {p pos apos:Pos} {C:Addr} {φ:List Dt→List Cell→MO} {ψ:List Dt→Out Dt}
structure PrC (P:Program) (w:World) (K:PySem.W.Frag) (mg:Str→Option Value) (base:Heap) (k:Nat) (C:Addr) (f:Str) (ψ:List Dt→Out Dt):Prop where
 cls:Cls K C
 ex:∃ p g,PropOf K C f p g∧FnR P w K mg base (L2N.CX P w) k g (YI K ψ)
structure CmC (P:Program) (w:World) (K:PySem.W.Frag) (mg:Str→Option Value) (base:Heap) (k:Nat) (C:Addr) (m:Str) (ψ:List Dt→Out Dt):Prop where
 ex:∃ mc p g,ClX.CRead K C mc∧ClX.CMet K C mc m p g∧FnR P w K mg base (L2N.CX P w) k g (YI K ψ)
end
end FD
namespace PySem
end PySem
namespace L2
open PySem PySem.Spec PyProof.Rows
end L2
namespace FD
open PySem L2 PyProof.Rows PySem.Spec
section
variable {K:PySem.W.Frag} {κ:KM} {W:WX} {la lk:List Nat} {A0:Ad}
end
end FD
namespace FD
open PySem L2 PyProof.Rows PySem.Spec
section
variable {K:PySem.W.Frag} {κ:KM} {μ:Mu} {W:WX} {H0 H H1:Hp} {A0:Ad} {ρ:Env} {σ:L2.St} {lk la lb:List Nat}
end
section
variable {X:Cx} {W:WX} {a b e:Expr} {es:List Expr} {fs:Env→Out (List Dt)} {fa fb f fk:Env→Out Dt} {la lb lk ls:List Nat} {pos p p1 p2 p3:Pos} {j:Nat}
end
section
variable {K:PySem.W.Frag} {κ:KM} {μ:Mu} {W:WX} {H0 H H1 H2:Hp} {A A0:Ad} {ρ:Env} {σ:L2.St} {lk la lb:List Nat}
end
section
variable {X:Cx} {W:WX} {e:Expr} {es:List Expr} {fk f:Env→Out Dt} {t:Env→Out Bool} {u:Dt→Env→Option Env} {S lk lt lq le:List Nat}
end
end FD
namespace FD
open PySem L2 PyProof.Rows PySem.Spec
section
variable {X:Cx} {W:WX} {S:List Nat} {a b:Expr} {fs:Env→XO (List Dt)} {lk:List Nat} {p pos:Pos}
end
end FD
namespace FD
open PySem L2 PyProof.Rows PySem.Spec
section
variable {prog:Program} {w:World} {A:Around} {R:Result→Shared→Prop} {I:Addr} {fp wr:List Addr} {G:Array GenState→Array GenState→Prop} {n:Nat} {P:Nat→Value→Prop} {St:Nat→Shared→Prop}
end
section
variable {prog:Program} {w:World} {A:Around} {E:Value→Shared→Prop} {s:Shared}
end
section
variable {X:Cx} {W:WX} {a:Expr} {ta:TE} {f:Env→Out Dt} {la:List Nat} {p p2 q pos:Pos}
end
end FD
namespace FD
open PySem L2 PyProof.Rows PySem.Spec
section
variable {K:PySem.W.Frag} {W:WX} {la lb lk:List Nat}
end
section
variable {X:Cx} {W:WX} {e:Expr} {f:Env→Out Dt} {lk:List Nat} {pos p p1 p2 p3:Pos}
end
end FD
namespace FD
open PySem L2 PyProof.Rows PySem.Spec
section
variable {K:PySem.W.Frag} {W:WX} {la lb lk:List Nat}
end
end FD
namespace PySem.SeqAt
open AutoSeq1 (wpAny_loadPart')
open MeetsSeq MeetsSeq2 MeetsSeq3 SeqRoads2
end PySem.SeqAt
namespace FD
open PySem L2 PyProof.Rows PySem.Spec
section
variable {X:Cx} {W:WX} {e o a b:Expr} {fs:Env→Out (List Dt)} {f fa fb:Env→Out Dt} {lk la lb:List Nat} {p pos apos:Pos} {L:Yo} {k j:Nat} {ta tb:TE}
end
end FD
namespace FD
open PySem L2 PyProof.Rows PySem.Spec
section
variable {X:Cx} {W:WX} {e o a b:Expr} {fs:Env→Out (List Dt)} {f fa fb:Env→Out Dt} {lk la lb:List Nat} {p pos apos:Pos} {L:Yo} {k j:Nat} {ta tb:TE}
end
end FD
namespace FD
open PySem L2 PyProof.Rows PySem.Spec
section
variable {X:Cx} {W:WX} {e o a b:Expr} {fs:Env→Out (List Dt)} {f fa fb:Env→Out Dt} {lk la lb:List Nat} {p pos apos:Pos} {L:Yo} {k j:Nat} {ta tb:TE}
end
end FD
namespace FD
open PySem L2 PyProof.Rows PySem.Spec
section
variable {X:Cx} {W:WX} {e o a b:Expr} {fs:Env→Out (List Dt)} {f fa fb:Env→Out Dt} {lk la lb:List Nat} {p pos apos:Pos} {L:Yo} {k j:Nat} {ta tb:TE}
end
end FD
namespace FD
open PySem L2 PyProof.Rows PySem.Spec
section
variable {X:Cx} {W:WX} {e o a b:Expr} {fs:Env→Out (List Dt)} {f fa fb:Env→Out Dt} {lk la lb:List Nat} {p pos apos:Pos} {L:Yo} {k j:Nat} {ta tb:TE}
end
end FD
namespace FD
open PySem L2 PyProof.Rows PySem.Spec
open Classical in
noncomputable def Bn(κ:KM)(H:Hp)(ρ:Env)(σ:L2.St)(A0:Ad)(lk:List Nat):Hp:=fun a=>if Av κ A0 ρ σ lk a then none else H a
section
variable {K:PySem.W.Frag} {κ:KM} {μ:Mu} {W:WX} {H0 H H1 H2:Hp} {A A0:Ad} {ρ:Env} {σ:L2.St} {lk la lb:List Nat}
def TIDn(K:PySem.W.Frag)(W:WX)(wi:TI)(f:Env→Out (List Dt))(lk:List Nat):Prop:=
 ∀ (μ:Mu) (H0:Hp) (A0:Ad) (ρ:Env) (σ:L2.St) (H:Hp) (R:It→Hp→Prop),StOk ⟨K,μ⟩ H0 A0 H ρ σ→Ce K W H σ (f ρ) (fun ds=>∀ J H1,Same H H1→Walks ⟨K,μ⟩ (Bn ⟨K,μ⟩ H1 ρ σ A0 lk) A0 J ds→R J H1)→wi σ H R
theorem StOk.atD(s:StOk κ H0 A0 H1 ρ σ){D:Addr}{u:HO}(hD:H1 D=none)(hs:Same H1 H2)(h2:H2 D=some u)(mu:Mut (some u)):StOk κ (upd H0 D u) (fun a=>A0 a∨a=D) H2 ρ σ:=by
 have s':=(s.grow (H':=delD D H2) fun a o e=>by rw [FO fun z=>by subst z; rw [hD] at e; cases e]; exact hs a o e).Xq Ol mu
 have e:upd (delD D H2) D u=H2:=by
  funext a
  by_cases h:a=D
  ·subst h; rw [upd_same,h2]
  ·rw [upd_ne h,FO h]
 rw [e] at s'
 exact s'
theorem Yn{i:Nat}{a:Addr}(h:AH κ ρ σ i a)(hs:EZ ρ i=true):False:=by
 obtain ⟨l,e,ho⟩:=h
 unfold EZ at hs
 rw [e] at hs
 cases l with
 | sh d=>exact ho
 | ol ds=>cases hs
 | od ks ds=>cases hs
 | ot ks ds=>cases hs
 | mh cs=>cases hs
end
end FD
namespace FD
open PySem L2 PyProof.Rows PySem.Spec
def cIn(K:PySem.W.Frag)(W:WX)(f:Env→Out (List Dt))(lk:List Nat):TI:=fun σ H R=>∃ (μ:Mu) (H0:Hp) (A0:Ad) (ρ:Env),StOk ⟨K,μ⟩ H0 A0 H ρ σ∧Ce K W H σ (f ρ) (fun ds=>∀ J H1,Same H H1→Walks ⟨K,μ⟩ (Bn ⟨K,μ⟩ H1 ρ σ A0 lk) A0 J ds→R J H1)
def ZP(X:Cx)(W:WX)(tg iter:Expr)(f:Env→Out (List Dt))(lk:List Nat):Prop:=∃ wi,PI X tg iter wi∧TIDn X.K W wi f lk
section
variable {X:Cx} {W:WX} {e:Expr} {es:List Expr} {f:Env→Out Dt} {t t1:Env→Out Bool} {u u1:Dt→Env→Option Env} {S S1 lk lk1 lt lt1 le:List Nat} {tg:Expr} {src1:Env→Out (List Dt)}
theorem ZP.Kl(h:ZP X W tg e src1 lk):PI X tg e (cIn X.K W src1 lk):=by
 obtain ⟨te,pe,de⟩:=h
 exact ⟨fun pins s σ H Q I ⟨μ,H0,A0,ρ,so,po⟩=>pe.run pins s σ H Q I (de μ H0 A0 ρ σ H Q so po)⟩
end
end FD
namespace FD
open PySem L2 PyProof.Rows PySem.Spec
section
variable {CX:CXT} {P:Program} {w:World} {K:PySem.W.Frag} {mg:Str→Option Value} {base:Heap} {k:Nat} {f:Addr} {name qual:Str} {params:Arguments} {body:List Stmt} {scope:Scope} {dV kV doc pm cdv ct oc:Value} {an od:Option Addr}
 {osl:Array (Option Value)} {N ps:List Str} {sp:Sp} {pd:Str}
end
section
variable {P:Program} {w:World} {K:PySem.W.Frag} {mg:Str→Option Value} {base:Heap}
end
end FD
namespace FD
open PySem L2 PyProof.Rows PySem.Spec
structure SMet (K:PySem.W.Frag) (C:Addr) (mc:Value) (m:Str) (p g:Addr):Prop where
 at_:PySem.W.findCls K (.ref C) mc m=some (.get (.builtin "staticmethod.__get__") (.ref p) .none (.ref C))
 rc:∃ rest,PySem.W.recIn K p "staticmethod" = some (.ref g :: rest)
 kp:PySem.W.keepIn K (.ref g)=true
structure SmC (P:Program) (w:World) (K:PySem.W.Frag) (mg:Str→Option Value) (base:Heap) (k:Nat) (C:Addr) (m:Str) (ψ:List Dt→Out Dt):Prop where
 ex:∃ mc p g,ClX.CRead K C mc∧SMet K C mc m p g∧FnR P w K mg base (L2N.CX P w) k g (YI K ψ)
section
variable {X:Cx} {W:WX} {e o:Expr} {es:List Expr} {fs:Env→Out (List Dt)} {fo:Env→Out Dt} {lk la:List Nat} {p pos apos:Pos} {ψ:List Dt→Out Dt} {C:Addr}
end
end FD
namespace FD
open PySem L2 PyProof.Rows PySem.Spec PySem.W
section
variable {prog:Program} {w:World} {A:Around} {E:Value→Shared→Prop} {s:Shared} {T:String} {r d:Addr} {n:Nat} {P:Nat→Value→Prop} {OK:Heap→Prop}
end
section
variable {X:Cx}
end
section
variable {X:Cx} {W:WX} {e:Expr} {fs:Env→Out (List Dt)} {lk:List Nat} {p pos:Pos} {j:Nat}
end
end FD
namespace FD
open PySem L2 PyProof.Rows PySem.Spec
section
variable {K:PySem.W.Frag} {W:WX} {S:List Nat} {σ:L2.St} {μ1:Mu} {H1 H2 H0:Hp} {ρ1:Env} {A0:Ad} {la lb lk:List Nat} {n:Nat} {c:Cell} {cs:List Cell} {p:Addr}
theorem Vu(hS:n∈S)(s1:StOk ⟨K,μ1⟩ H0 A0 H1 ρ1 σ)(ec:BY n ρ1=some cs)(hs:Same H1 H2)(hp:H1 p=none)
  (ok:∀ A',(∀ b,A' b→Av ⟨K,μ1⟩ A0 ρ1 σ [] b∨b=p)→D5 ⟨K,μ1.push p⟩ H0 H2 A' c p):
  StOk ⟨K,μ1.push p⟩ H0 A0 H2 (ρ1.set n (some (.mh (cs ++ [c])))) σ∧Ch K S σ μ1 H1 ρ1 (μ1.push p) H2 (ρ1.set n (some (.mh (cs ++ [c]))))∧(∀ (H:Hp) (A:Ad),Rep ⟨K,μ1.push p⟩ H A (.ad cs.length) (.ref p)):=by
 have e:=B3 ec
 obtain ⟨nd,hlen,_⟩:=s1.lo n _ e
 have hm:Xt μ1 (μ1.push p):=⟨fun k a h=>by show (μ1.l ++ [p])[k]? = _; rw [List.getElem?_append_left (List.getElem?_eq_some_iff.mp h).1]; exact h,rfl,fun z=>by exact absurd e (s1.nm z n cs)⟩
 have st:=s1.alloc (c:=c) e hs hp ok
 have own':∀ a,Bq ⟨K,μ1.push p⟩ (.mh (cs ++ [c])) σ[n]? a→Bq ⟨K,μ1⟩ (.mh cs) σ[n]? a∨a=p:=fun a ⟨k,c',f1,f2,f3⟩=>by
  have f3':(μ1.l ++ [p])[k]? = some a:=f3
  by_cases hk:k < cs.length
  ·rw [List.getElem?_append_left hk] at f1
   rw [List.getElem?_append_left (by rw [← hlen]; exact hk)] at f3'
   exact .inl ⟨k,c',f1,f2,f3'⟩
  ·have hk2:=(List.getElem?_eq_some_iff.mp f1).1
   rw [List.length_append,List.length_singleton] at hk2
   rw [List.getElem?_append_right (by rw [← hlen]; show cs.length≤k; omega)] at f3'
   have:k - μ1.l.length=0:=by rw [← hlen]; show k - cs.length=0; omega
   rw [this] at f3'
   cases f3'
   exact .inr rfl
 refine ⟨st,?_,fun H A=>?_⟩
 ·refine ⟨hm,fun a o q _=>hs a o q,fun j hj=>List.getElem?_set_ne fun (z:n=j)=>hj (by rw [← z]; exact hS),fun j a hj h=>?_,.inr fun j c q=>by rw [s1.one j n _ _ q e]; exact hS⟩
  obtain ⟨l,e1,ho⟩:=h
  by_cases hn:n=j
  ·subst hn
   rw [List.getElem?_set_self (List.getElem?_eq_some_iff.mp e).1] at e1
   cases e1
   exact (own' a ho).imp (fun z=>⟨n,hS,_,e,z⟩) fun z=>by rw [z]; exact hp
  ·rw [List.getElem?_set_ne hn] at e1
   refine .inl ⟨j,hj,l,e1,ho.ext fun q=>?_⟩
   cases l with
   | mh c=>exact absurd (s1.one n j _ _ e e1) hn
   | _=>cases q
 ·unfold Rep
  refine ⟨p,?_,rfl⟩
  show (μ1.l ++ [p])[cs.length]? = some p
  rw [show cs.length=μ1.l.length from hlen,List.getElem?_append_right (Nat.le_refl _),Nat.sub_self]
  rfl
def Dr(n:Nat)(f:Env→Out (List Dt))(lk:List Nat):Env→XO Dt:=fun ρ=>(f ρ).xb ρ fun ds=>match ds with
 | [.dic ks es]=>(match BY n ρ with
  | some cs=>if (lk.all (EZ ρ) || Dt.CA es)=true then .ok (.ad cs.length) (ρ.set n (some (.mh (cs ++ [.dic ks es])))) else .bad
  | none=>.bad)
 | _=>.bad
theorem QK{ta:TA}{f:Env→Out (List Dt)}(hS:n∈S)(ha:Q1 K W ta f la):Hl K W S (tCB (fun xs H Q=>∃ (a:Addr) (kvs:List (Key × V)),xs=[V.ref a]∧Rd H a (.dK kvs)∧∀ p,H p=none→Q (V.ref p) (upd H p (.dK kvs))) ta) (Dr n f la) []:=by
 intro μ H0 A0 ρ σ H Q s h
 unfold Dr at h
 refine ha _ _ _ _ _ _ _ s (BO.pb s h fun ds _ h2 vs H1 s1 r1=>?_)
 split at h2
 ·rename_i ks es _
  obtain ⟨v,rfl,rr⟩:=B5 r1
  obtain ⟨a,kvs,rfl,g1,g2,g3⟩:=FA rr
  refine ⟨a,kvs,rfl,g1,fun p hp=>?_⟩
  split at h2
  ·rename_i cs ec
   split at h2
   ·rename_i hc
    have sg:=s.grow s1
    have g4:Ag ⟨K,μ⟩ H1 (Av ⟨K,μ⟩ A0 ρ σ []) es (kvs.map (·.2)):=by
     rw [Bool.or_eq_true] at hc
     rcases hc with hc | hc
     ·refine g3.Bv fun a z=>?_
      rcases z with z | ⟨i,ni,l,e1,ho⟩
      ·exact .inl z
      ·exact .inr ⟨i,fun q=>Yn ⟨l,e1,ho⟩ (List.all_eq_true.mp hc i q),l,e1,ho⟩
     ·exact Ag.pure (fun a z=>sg.Ez z) _ _ hc g3
    have g5:=(Ag.fresh hp _ _ g4).same (Same.new (o:=HO.dK kvs) hp)
    obtain ⟨t1,t2,t3⟩:=Vu (S:=S) (c:=.dic ks es) (H2:=upd H1 p (.dK kvs)) hS sg ec (Same.new hp) hp fun A' hA=>by
     refine ⟨sg.same.free hp,kvs,upd_same,g2,?_⟩
     have hm:Xt μ (μ.push p):=⟨fun k a h=>by show (μ.l ++ [p])[k]? = _; rw [List.getElem?_append_left (List.getElem?_eq_some_iff.mp h).1]; exact h,rfl,fun z=>by exact absurd (B3 ec) (s.nm z n cs)⟩
     exact (g5.ext hm).Bv fun a z=>hA a z
    exact h2 _ _ _ (((Ch.refl μ H ρ).grow s1).trans t2) t1 (t3 _ _)
   ·exact False.elim h2
  ·exact False.elim h2
 ·exact False.elim h2
def PM(n:Nat)(x:Dt)(k:Key)(d:Dt)(ρ:Env):Option Env:=match x with
 | .ad j=>(BY n ρ).bind fun cs=>match cs[j]? with
  | some (.dic ks ds)=>if ks.length < 16777216 then some (ρ.set n (some (.mh (cs.set j (.dic (D7 ks k) (D6 ks ds k d)))))) else none
  | _=>none
 | _=>none
def Ho(n:Nat)(fx fk:Env→Out Dt)(f:Env→XO Dt)(lk:List Nat):Env→SOut:=fun ρ=>xE (f ρ) fun d ρ1=>F8 (fx (AI d lk ρ1)) (AI d lk ρ1) fun x=>F8 (fk (AI d lk ρ1)) (AI d lk ρ1) fun k=>match (keyD k).bind fun k=>PM n x k d (AI d lk ρ1) with
 | some ρ'=>.ok .nx ρ'
 | none=>.bad
theorem Tg{te tx tk:TE}{f:Env→XO Dt}{fx fk:Env→Out Dt}(ha:Hl K W S te f lk)(hx:DZ K W tx fx la)(hk:DZ K W tk fk lb):F7 K W (sDPut tx tk te) (Ho n fx fk f lk):=by
 intro μ H0 A0 ρ σ H D s h
 unfold Ho at h
 refine ha _ _ _ _ _ _ _ s (AK.xt h fun d ρ1 _ h1 μ1 v H1 c1 s1 r1=>?_)
 obtain ⟨s2,r2⟩:=s1.O7 r1
 refine hx _ _ _ _ _ _ _ s2 (AK.st s2 (h1.ext c1.xt) fun x _ h2 w H2 g2 rx=>?_)
 have s3:=s2.grow g2
 refine hk _ _ _ _ _ _ _ s3 (AK.st s3 h2 fun k _ h3 w' H3 g3 rk=>?_)
 have s4:=s3.grow g3
 split at h3
 ·rename_i ρ' ep
  obtain ⟨k',ek,ep⟩:=Option.bind_eq_some_iff.mp ep
  unfold PM at ep
  split at ep
  ·rename_i j _ _
   obtain ⟨cs,ec,ep⟩:=Option.bind_eq_some_iff.mp ep
   split at ep
   ·rename_i ks ds e1
    split at ep
    ·rename_i hl
     cases ep
     unfold Rep at rx
     obtain ⟨b,eb,rfl⟩:=rx
     obtain ⟨_,_,hc⟩:=s4.lo n _ (B3 ec)
     obtain ⟨h0,kvs,hb,hks,r⟩:=hc j _ b e1 eb
     subst hks
     have ew:=JN ek rk
     subst ew
     refine ⟨b,_,rfl,DPut.k hb (by rw [List.length_map] at hl; rw [sizeLine_eq]; exact hl),?_⟩
     refine h3 _ _ _ (Xt.refl _) (s4.Z5 (c':=.dic (D7 (kvs.map (·.1)) k') (D6 (kvs.map (·.1)) ds k' d)) (B3 ec) e1 rfl eb rfl fun A' hA=>?_)
     have ow:AH ⟨K,μ1⟩ (AI d lk ρ1) σ n b:=⟨_,B3 ec,j,_,e1,rfl,eb⟩
     exact ⟨h0,putK kvs k' v,upd_same,JM,(Jw ((r2.same g2).same g3) r).mono (Av.keep ow) hA⟩
    ·cases ep
   ·cases ep
  ·cases ep
 ·exact False.elim h3
def B9(i:Nat)(fk:Env→Out Dt)(f:Env→XO Dt)(lk:List Nat):Env→SOut:=fun ρ=>xE (f ρ) fun d ρ1=>match (AI d lk ρ1)[i]? with
 | some (some (.od ks ds))=>F8 (fk (AI d lk ρ1)) (AI d lk ρ1) fun k=>(match keyD k with
  | some k=>if ks.length < 16777216 then .ok .nx ((AI d lk ρ1).set i (some (.od (D7 ks k) (D6 ks ds k d)))) else .bad
  | none=>.bad)
 | _=>.bad
theorem Tf{i:Nat}{te tk:TE}{f:Env→XO Dt}{fk:Env→Out Dt}(ha:Hl K W S te f la)(hk:DZ K W tk fk lb):F7 K W (sDPut (tVar i) tk te) (B9 i fk f la):=by
 intro μ H0 A0 ρ σ H D s h
 unfold B9 at h
 refine ha _ _ _ _ _ _ _ s (AK.xt h fun d ρ1 _ h2 μ1 v H1 c1 s1 r1=>?_)
 obtain ⟨s2,r2⟩:=s1.O7 r1
 split at h2
 ·rename_i ks ds e2
  obtain ⟨a,kvs,e1,h0,h1,hks,r3⟩:=s2.lo i _ e2
  refine ⟨_,e1,?_⟩
  refine hk _ _ _ _ _ _ _ s2 (AK.st s2 (h2.ext c1.xt) fun k _ h3 w H2 s3 r4=>?_)
  have sg:=s2.grow s3
  split at h3
  ·rename_i k' ek
   split at h3
   ·rename_i hl
    subst hks
    have ew:=JN ek r4
    subst ew
    have h1':=s3 _ _ h1
    refine ⟨a,_,rfl,DPut.k h1' (by rw [List.length_map] at hl; rw [sizeLine_eq]; exact hl),?_⟩
    exact h3 _ _ _ (Xt.refl _) (sg.Z6 e2 e1 JM (Jw (r2.same s3) (r3.same s3)))
   ·exact False.elim h3
  ·exact False.elim h3
 ·exact False.elim h2
end
section
variable {X:Cx} {W:WX} {S:List Nat} {e o a:Expr} {fs:Env→Out (List Dt)} {f:Env→XO Dt} {fo fk:Env→Out Dt} {lk la lb:List Nat} {p p1 p2 pos:Pos} {n j:Nat}
theorem SI(hg:Gl X "dict")(hm:X.mg "dict" = none)(ha:JR X W [e] fs lk)(hS:n∈S:=by decide)(he:starEach [e] X.env=(false,eval e X.env) :: starEach [] X.env:=by rfl):F3 X W S (.Call (.Name "dict" p) [e] [] pos) (Dr n fs lk) []:=by
 obtain ⟨ta,pa,da⟩:=ha
 exact ⟨_,pe_callTy call_dictD hg hm (by decide +kernel) pa (by decide) (by decide) he rfl,QK hS da⟩
theorem RB(n:Nat)(hr:Room j X.A)(h:F3 X W S e f lk)(ho:Bp X W o fo la)(hk:Bp X W a fk lb)(hs:swapsWith e (some (.Subscript o a p2)) pos.line X.env=pure false:=by rfl):Kd X W (.Assign [.Subscript o a p2] e pos) (Ho n fo fk f lk):=by
 obtain ⟨t,p,d⟩:=h
 obtain ⟨t',p',d'⟩:=ho
 obtain ⟨t'',p'',d''⟩:=hk
 exact ⟨_,ps_dput (by have:=hr.un; omega) p' p'' p hs,Tg d d' d''⟩
theorem Ks(hr:Room j X.A)(i:Nat){x:Str}(h:F3 X W S e f lk)(hk:Bp X W a fk la)(hN:X.N[i]? = some x:=by rfl)(hv:Vis X.env.scope x:=by first | exact Or.inl rfl | exact Or.inr (Or.inl rfl) | exact Or.inr (Or.inr rfl))(hd:(x == ("__debug__" : Str))=false:=by decide)
  (hcd:(x == ("__classdict__" : Str))=false:=by decide) (hs:swapsWith e (some (.Subscript (.Name x p1) a p2)) pos.line X.env=pure false:=by rfl):Kd X W (.Assign [.Subscript (.Name x p1) a p2] e pos) (B9 i fk f lk):=by
 obtain ⟨t,p,d⟩:=h
 obtain ⟨t',p',d'⟩:=hk
 exact ⟨_,ps_dput (by have:=hr.un; omega) (pe_var hN hv hd hcd) p' p hs,Tf d d'⟩
end
end FD
namespace L2
open PySem PySem.Spec PyProof.Rows
section
variable {X:Cx}
end
end L2
namespace FD
open PySem L2 PyProof.Rows PySem.Spec
end FD
namespace FD
open PySem L2 PyProof.Rows PySem.Spec
section
variable {prog:Program} {w:World} {A:Around} {E:Value→Shared→Prop}
end
end FD
namespace FD
open PySem L2 PyProof.Rows PySem.Spec
section
variable {P:Program} {w:World} {K:PySem.W.Frag} {mg:Str→Option Value} {base:Heap} {A:Around} {outer:List PySem.Env} {s:Shared} {H:Hp}
end
def QP(P:Program)(w:World)(K:PySem.W.Frag)(mg:Str→Option Value)(base:Heap)(CX:CXT)(k:Nat)(f:Addr)(np:Nat)(ks:List Str)(sp:Sp):Prop:=
 ∀ (A:Around) (outer:List PySem.Env) (s:Shared) (H:Hp) (us kus:List Value) (vs:List V) (Q:VK) (E:XK),us.length=np→kus.length=ks.length→Room k A→Env0 P w K mg base A outer s H→Vals vs (us ++ kus)→sp vs H Q E →
  codeAny (model P w) A (.call (.ref f) ⟨us,ks.zip kus⟩) (CR CX outer P w H s Q E) s
section
variable {CX:CXT} {P:Program} {w:World} {K:PySem.W.Frag} {mg:Str→Option Value} {base:Heap} {k:Nat} {f:Addr} {name qual:Str} {params:Arguments} {body:List Stmt} {scope:Scope} {dV kV doc pm cdv ct oc:Value} {an od:Option Addr}
 {osl:Array (Option Value)} {N ps:List Str} {sp:Sp} {pd:Str} {ks:List Str}
end
end FD
namespace FD
open PySem L2 PyProof.Rows PySem.Spec
section
variable {P:Program} {w:World} {K:PySem.W.Frag} {mg:Str→Option Value} {base:Heap}
theorem QP.imp{CX:CXT}{k:Nat}{f:Addr}{np:Nat}{ks:List Str}{sp sp':Sp}(F:QP P w K mg base CX k f np ks sp)(h:∀ vs H Q E,vs.length=np + ks.length→sp' vs H Q E→sp vs H Q E):QP P w K mg base CX k f np ks sp':=fun A outer s H us kus vs Q E h1 h2 hr e0 r hs=>
 F A outer s H us kus vs Q E h1 h2 hr e0 r (h _ _ _ _ (by rw [r.length,List.length_append,h1,h2]) hs)
theorem QP.mono{CX:CXT}{j k:Nat}{f:Addr}{np:Nat}{ks:List Str}{sp:Sp}(F:QP P w K mg base CX j f np ks sp)(h:j≤k):QP P w K mg base CX k f np ks sp:=fun A outer s H us kus vs Q E h1 h2 hr=>F A outer s H us kus vs Q E h1 h2 (hr.mono h)
structure MeK (P:Program) (w:World) (K:PySem.W.Frag) (mg:Str→Option Value) (base:Heap) (k:Nat) (C:Addr) (m:Str) (ks:List Str) (ψ:List Dt→Out Dt):Prop where
 cls:Cls K C
 ex:∃ f,Meth K C m f∧QP P w K mg base (L2N.CX P w) k f 1 ks (YI K ψ)
end
structure PKs (X:Cx) (es:List Keyword) (t:TA):Prop where
 run:∀ (pos:Pos) (pins:List (Addr × Obj)) (s:Shared) (σ:L2.St) (H:Hp) (Q:List V→Hp→Prop),Inv X pins σ H s→t σ H Q→wpAny (model X.prog X.w) X.A (evalAll ((backToKw pos (keywordEach es X.env)).map (·.2))) (fun us s'=>us.length=es.length∧AP X pins σ Q us s') X.xe s
section
variable {X:Cx} {W:WX} {o e:Expr} {te ta:TE} {t:TA} {kws:List Keyword} {pos apos p:Pos} {name:Str} {fo f:Env→Out Dt} {fs:Env→Out (List Dt)} {la lk:List Nat} {ks:List Str}
end
end FD
namespace FD
open PySem L2 PyProof.Rows PySem.Spec
section
variable {K:PySem.W.Frag} {W:WX} {la lb:List Nat}
end
section
variable {X:Cx} {W:WX} {e f:Expr} {fk fz:Env→Out Dt} {la lb:List Nat} {apos cpos pos p1:Pos}
end
end FD
namespace FD
open PySem L2 PyProof.Rows PySem.Spec
end FD
namespace FD
open PySem L2 PyProof.Rows PySem.Spec
section
variable {K:PySem.W.Frag} {S:List Nat} {W:WX} {lk:List Nat} {X:Cx} {tg e:Expr}
end
end FD
namespace L2
open PySem PySem.Spec PyProof.Rows
section
variable {X:Cx}
end
end L2
namespace FD
open PySem L2 PyProof.Rows PySem.Spec
end FD
namespace L2
open PySem PySem.Spec PyProof.Rows
section
variable {X:Cx}
end
end L2
namespace FD
open PySem L2 PyProof.Rows PySem.Spec
section
variable {K:PySem.W.Frag} {S:List Nat} {la lb:List Nat} {W:WX} {n:Nat}
end
section
variable {X:Cx} {W:WX} {S:List Nat} {a b:Expr} {fa fb:Env→XO Dt} {la lb:List Nat} {pos:Pos}
end
section
variable {X:Cx} {W:WX} {e:Expr} {f:Env→Out Dt} {la:List Nat} {pos p2:Pos} {lo hi:Option Expr} {fl fh:Env→Out (Option Int)}
end
section
variable {K:PySem.W.Frag} {S:List Nat} {σ:L2.St} {μ μ':Mu} {H H' H0:Hp} {ρ ρ':Env} {A0:Ad} {lk la lb:List Nat} {W:WX} {d e:Dt} {v:V} {cs cs':List Cell} {n k:Nat} {c:Cell} {a:Addr}
end
section
variable {X:Cx} {W:WX} {e:Expr} {fs:Env→Out (List Dt)} {lk:List Nat} {p pos:Pos}
end
end FD
namespace PySem.FX
open PySem PySem.W PySem.Calls PyProof.Rows PySem.Spec
end PySem.FX
namespace TxS
open PySem PySem.Spec PyProof.Rows L2
def kS(e:Int × Value):Str:=match e.2 with | .str k _=>k | _=>Str.empty
def Tx1(w:World)(e:Int × Value):Prop:=∃ k t,e.2=Value.str k t∧e.1=hashStr w k
def Yc(w:World)(h:Heap)(a:Addr)(ks:List Str):Prop:=
 ∃ o es ep t,h.get? a=some o∧o.ExactSet∧o.data=.set es ep t∧(∀ e∈es.toList,Tx1 w e)∧(es.toList.map kS).Perm ks∧ks.Nodup∧es.size < scanBound∧t.fits es.size=true∧Ris t.place.toList∧(w.params.followText "set-order" = true∨t.led=true)
section
variable {P:Program} {w:World} {h h':Heap} {a:Addr} {ks:List Str}
theorem Yc.at(R:Yc w h a ks)(k:∀ o,h.get? a=some o→h'.get? a=some o):Yc w h' a ks:=by
 obtain ⟨o,es,ep,t,ho,r⟩:=R
 exact ⟨o,es,ep,t,k o ho,r⟩
end
section
variable {P:Program} {w:World} {A:Around} {E:Value→Shared→Prop} {s:Shared} {a:Addr} {ks:List Str}
end
section
variable {P:Program} {w:World} {A:Around} {E:Value→Shared→Prop} {s:Shared}
end
section
variable {P:Program} {w:World} {A:Around} {E:Value→Shared→Prop} {s:Shared} {a:Addr} {ks:List Str}
end
end TxS
namespace TxS
open PySem PySem.Spec PyProof.Rows L2
section
variable {P:Program} {w:World} {A:Around} {E:Value→Shared→Prop} {s:Shared}
end
end TxS
namespace FD
open PySem L2 PyProof.Rows PySem.Spec TxS
section
variable {X:Cx} {W:WX} {a:Expr} {ta:TE} {f:Env→Out Dt} {la:List Nat} {p p2 q pos:Pos}
end
end FD
namespace LiI
open PySem PySem.W PySem.Spec PyProof.Rows L2 TxS
mutual
theorem Py{h:Heap}:∀ {v:Value} {d:PyData} {as:List Addr},Reads h v d as→∀ a∈as,a < h.objs.size
 | _,_,_,.none,a,q=>nomatch q
 | _,_,_,.bool b,a,q=>nomatch q
 | _,_,_,.int i t,a,q=>nomatch q
 | _,_,_,.str x t,a,q=>nomatch q
 | _,_,_,.list h1 h2 h3 h4,a,q=>(List.mem_cons.mp q).elim (fun e=>e ▸ Heap.lt_size h1) (DO h4 a)
 | _,_,_,.tuple h1 h2 h3 h4,a,q=>DO h4 a q
 | _,_,_,.dict h1 h2 h3 h4 h5,a,q=>(List.mem_append.mp q).elim (fun q=>(List.mem_cons.mp q).elim (fun e=>e ▸ Heap.lt_size h1) (DO h4 a)) (DO h5 a)
theorem DO{h:Heap}:∀ {vs:List Value} {ds:List PyData} {as:List Addr},ReadsAll h vs ds as→∀ a∈as,a < h.objs.size
 | _,_,_,.nil,a,q=>nomatch q
 | _,_,_,.cons h1 h2,a,q=>(List.mem_append.mp q).elim (Py h1 a) (DO h2 a)
end
section
variable {X:Cx}
theorem O1{pins:List (Addr × Obj)}{σ:L2.St}{H:Hp}{s:Shared}{h':Heap}{tk:Nat}{kvs:List (Key × V)}{vs:List (Key × Value)}{as:List Addr}(I:Inv X pins σ H s)(kv:KV kvs vs)
  (hk:∀ b o,s.heap.get? b=some o→h'.get? b=some o) (hl:as.length=vs.length) (hG:PySem.W.KdxG (mixKind X.prog X.w) vs s.heap.objs.size h' as):
  ∃ H':Hp,(∀ b o,H b=some o→H' b=some o)∧(∀ t∈as,H t=none)∧Paired (fun (t:Addr) (q:Key × V)=>H' t=some (.tup [kV q.1,q.2])) as kvs∧Inv X pins σ H' { s with heap:=h',toks:=tk }:=by
 have lk:kvs.length=vs.length:=Paired.length kv
 have nd:as.Nodup:=List.Pairwise.imp (fun {a b} (h:a < b)=>Nat.ne_of_lt h) hG.rise
 have new:∀ t∈as,H t=none:=fun t ht=>I.hok.fresh (Nat.le_of_lt (hG.above t ht))
 have atP:=putT_at as kvs H (by omega) nd
 have off:∀ b,b∉as→putT H as kvs b=H b:=fun b h1=>putT_off as kvs H h1
 have low:∀ b o,s.heap.get? b=some o→b∉as:=fun b o e z=>absurd (Heap.lt_size e) (Nat.not_lt.mpr (Nat.le_of_lt (hG.above b z)))
 have kp:∀ b u,H b=some u→(putT H as kvs) b=some u:=fun b u e=>by
  rw [off b (fun z=>by rw [new b z] at e; cases e)]
  exact e
 refine ⟨putT H as kvs,kp,new,atP,?_⟩
 refine I.call' (ch:=[]) rfl ⟨fun b o q _ _ _=>hk b o q,fun b o q _ _ _=>⟨o.slots,hk b o q⟩,fun b o q n _=>?_,fun b o q _=>⟨o,hk b o q⟩,fun b xs q=>kp b _ q,fun b o u q=>kp b _ q,fun b ps q=>⟨#[],by rw [kp b _ q]; simp⟩⟩ (fun b u q=>?_) I.bare fun b z=>by simp at z
 ·rw [off b (low b o q)]
  exact n
 ·by_cases hb:b∈as
  ·obtain ⟨j,pk,e1,e2,e3⟩:=paired_ix atP hb
   rw [e3] at q
   cases q
   obtain ⟨key,k,x,f1,f2,f3⟩:=hG.pairs j b e1
   obtain ⟨qv,g1,g2,g3⟩:=paired_get kv e2
   rw [f1] at g1
   cases g1
   have rk:RelV (kV pk.1) key:=by
    rw [g2]
    exact relV_key (show keyIs k key=true from f2)
   exact ⟨by show 2≤sizeLine; decide,[key,x],.cons rk (.cons g3 .nil),⟨_,f3,rfl,_,rfl⟩⟩
  ·rw [off b hb] at q
   exact (I.hok b u q).stay (fun d v _ y=>hk d v y) (fun d y=>kp d _ y) fun d xs y=>kp d _ y
def WN(K:PySem.W.Frag):V→Hp→VK→Prop:=fun v H Q=>∃ (a:Addr) (es:List (Key × V)),v=.ref a∧Rd H a (.dK es) ∧
 ∀ (G:Hp) (us:List Addr),(∀ c u,H c=some u→G c=some u)→(∀ u∈us,H u=none)→Paired (fun (u:Addr) (z:Key × V)=>G u=some (.tup [kV z.1,z.2])) us es →
  ∃ ds:List PyData,DpAll K G (us.map V.ref) ds∧PySem.W.AllAlike ds∧PySem.W.Sortable ds∧(∀ d∈ds,d.depth≤60)∧∀ q,G q=none→Q (.ref q) (upd G q (.lst ((((us.map V.ref).zip ds).mergeSort Ni).map (·.1))))
def Q8(K:PySem.W.Frag)(t:TE):TE:=fun σ H Q=>t σ H fun v G=>WN K v G Q
theorem S2{a:Expr}{t:TE}{q1 q2 q3 q4:Pos}(hu:X.A.units + 68 < cLine)(ca:X.calm=true)(pa:PE X a t)(gl:Gl X "sorted")(no:X.mg "sorted" = none)(b1:attributeBase a "items" X.env (eval a X.env)=eval a X.env:=by rfl)(ln:(q2.endLine == q3.line)=true:=by rfl)
  (st:starEach [.Call (.Attribute a "items" q2) [] [] q3] X.env=(false,eval (.Call (.Attribute a "items" q2) [] [] q3) X.env) :: starEach [] X.env:=by rfl):
  PE X (.Call (.Name "sorted" q1) [.Call (.Attribute a "items" q2) [] [] q3] [] q4) (Q8 X.K t):=by
 constructor
 intro pins s σ H Q I go
 refine Call_ (ld_blt I gl no PyProof.Rows.boot_sorted ?_)
 refine callWith_builtin1 (args_cons ?_ st) rfl rfl
 refine wpAny_Call_method (T:="dict") (id:="dict.items") b1 rfl ln F.plainAttrs_dict F.slot_dict_items F.type_dict_items (thn (pa.run pins s σ H _ I go) fun u s1 ⟨v,G,J,rv,d,es,ev,rd,k⟩=>?_)
 subst ev
 obtain rfl:u=Value.ref d:=rv
 obtain ⟨w1,w2,vs,kv,od⟩:=rd.ok J.hok
 obtain ⟨ep,E3⟩:=od.dictAt
 have ll:es.length=vs.length:=Paired.length kv
 have J2:Inv X pins σ G { s1 with heap:=s1.heap.push { cls:=.type "dict_items",data:=.fields #[.ref d] } }:=J.kept (t':=s1.toks) fun b ob e=>Heap.get?_push_of_some _ e
 refine ⟨od.typeIs,od.mapOf.noDict,?_⟩
 show wpAny _ _ (callWith q3 (.builtin "dict.items") [.ref d] [] []) _ X.xe s1
 refine method_meetsIn F.slot_dict_items F.entry_dict_items rfl (PySem.evalArgs_none ⟨rfl,od.typeIs,F.args_dict_items_1 _,_,meets_dict_items (mixKind X.prog X.w) d w2,⟨vs,od⟩,?_⟩)
 refine args_nil ?_
 refine Calls.call_function_entry kind_sorted plain_sorted entry_sorted (args_sorted1 _) ?_
 unfold Builtin.«sorted»
 refine wpAny_bind (m:=checkCount "sorted" 1 1 _) (wpAny_pure ?_)
 refine wpAny_bind (PySem.W.kdx_collect (A:=X.A.in1) (knd:=mixKind X.prog X.w) (kvs:=vs) (ep:=ep) (J.ok.hd ca) ⟨_,Heap.get?_push_size _ rfl,rfl,rfl⟩ (E3.push _) (by omega) fun h' tk as keep hl hG=>?_)
 obtain ⟨G',k1,k2,k3,J3⟩:=O1 (tk:=tk) J2 kv keep hl hG
 obtain ⟨ds,dp,al,so,dpt,q⟩:=k G' as k1 k2 k3
 obtain ⟨e1,e2,e3⟩:=Oh J3 (vals_refs as) dp
 have hvz:(as.map Value.ref).length≤sizeLine:=by rw [List.length_map]; omega
 refine wpAny_bind (wpAny_newList ?_ hvz)
 have hoL:(h'.push (seqObj "list" (as.map Value.ref).toArray 0)).get? h'.objs.size=some (seqObj "list" (as.map Value.ref).toArray 0):=Heap.get?_push_size _ rfl
 refine wpAny_bind (wpAny_holding ?_)
 refine PySem.W.list_sort_data (R:=fun u b=>RelV b.1 u) (bs:=(as.map V.ref).zip ds) (enc:=fun p:V × PyData=>p.2) hoL e1 (e2.mono fun v b ⟨bs,r⟩=>⟨bs,Reads.keeps (fun b o e=>Heap.get?_push_of_some _ e) r,fun z=>absurd (Py r _ z) (Nat.lt_irrefl _)⟩) (by rw [e3]; exact al) (by rw [e3]; exact so) (by rw [← e1.length]; exact hvz) (fun b hb=>?_) fun out ho2 he2=>?_
 ·have:b.2∈ds:=by rw [← e3]; exact List.mem_map.mpr ⟨b,hb,rfl⟩
  have:=dpt _ this
  show X.A.in1.units + 1 + b.2.depth < cLine
  have:X.A.in1.units≤X.A.units + 1:=by first | exact Nat.le_refl _ | (show X.A.units + 1≤X.A.units + 1; omega)
  omega
 ·obtain ⟨c,hc⟩:=sortedHeap_at (vs:=as.map Value.ref) (out:=out.toArray) hoL
  have hv:=L2.Jq he2
  have keep2:∀ b o,h'.get? b=some o→(sortedHeap (h'.push (seqObj "list" (as.map Value.ref).toArray 0)) h'.objs.size (as.map Value.ref) out.toArray).get? b=some o:=fun b u e=>by
   have hlt:=Heap.lt_size e
   rw [sortedHeap_old (Nat.ne_of_lt hlt) (by rw [size_push']; exact Nat.lt_succ_of_lt hlt)]
   exact Heap.get?_push_of_some _ e
  refine wpAny_pure ⟨_,rfl,.ref h'.objs.size,upd G' h'.objs.size (.lst ((((as.map V.ref).zip ds).mergeSort Ni).map (·.1))),?_,rfl,q _ (J3.hok.fresh (Nat.le_refl _))⟩
  refine J3.laid (t':=tk) keep2 (Nat.le_refl _) ⟨?_,out,c,hv,hc⟩
  show ((((as.map V.ref).zip ds).mergeSort Ni).map (·.1)).length≤sizeLine
  rw [List.length_map,List.length_mergeSort,← e1.length]
  exact hvz
end
end LiI
namespace FD
open PySem L2 PyProof.Rows PySem.Spec
def Kt:Dt→Option (List Dt)
 | .dic ks ds=>De [.lst (Vp ks ds)]
 | _=>none
def Kv(f:Env→Out Dt):Env→Out (List Dt):=fun ρ=>(f ρ).bind fun a=>DY (Kt a)
theorem QR{f:Env→Out Dt}{ρ:Env}:Kv f ρ=(f ρ).bind fun a=>DY (Kt a):=rfl
theorem JY{G G':Hp}(k:Same G G'):∀ {us:List Addr} {es:List (Key × V)},Paired (fun (u:Addr) (z:Key × V)=>G u=some (.tup [kV z.1,z.2])) us es→Paired (fun (u:Addr) (z:Key × V)=>G' u=some (.tup [kV z.1,z.2])) us es
 | _,_,.nil=>.nil
 | _,_,.cons h t=>.cons (k _ _ h) (JY k t)
section
variable {K:PySem.W.Frag} {W:WX} {la:List Nat}
theorem QA{t:TE}{f:Env→Out Dt}(ha:DZ K W t f la):VB K W (LiI.Q8 K t) (Kv f) la:=by
 intro μ H0 A0 ρ σ H Q s h
 refine ha _ _ _ _ _ _ _ s (h.seq fun a ea h1 v1 H1 s1 r1=>?_)
 clear ea
 obtain ⟨ds,e,q⟩:=Bt h1
 cases a <;> try (cases e; done)
 rename_i ks es
 obtain ⟨a,kvs,rfl,g1,g2,g3⟩:=FA r1
 subst g2
 unfold Kt De at e
 obtain ⟨es',e1,e⟩:=Option.bind_eq_some_iff.mp e
 cases e1
 obtain ⟨ps,e2,e⟩:=Option.bind_eq_some_iff.mp e
 obtain ⟨⟨h3,h4⟩,rfl⟩:=AX e
 refine ⟨a,kvs,rfl,g1,fun G us keep hu hpair=>?_⟩
 have hus:∀ u∈us,¬ Av ⟨K,μ⟩ A0 ρ σ la u:=fun u hu'=>s.MJ (s1.free (hu u hu'))
 have rr:=FN (g3.same keep) hpair hus
 unfold MX at h4
 rw [Bool.and_eq_true,Bool.or_eq_true] at h4
 obtain ⟨h5,h6⟩:=h4
 refine ⟨ps,Ag.YN _ _ ps e2 rr,fun d hd d' hd'=>List.all_eq_true.mp (List.all_eq_true.mp h3 d hd) d' hd',?_,fun d hd=>of_decide_eq_true (List.all_eq_true.mp h6 d hd),fun p hp=>?_⟩
 ·rcases h5 with h5 | h5
  ·refine .inl fun d hd=>?_
   have:=List.all_eq_true.mp h5 d hd
   cases d <;> try (exact Bool.noConfusion this)
   rename_i l
   cases l with
   | nil=>exact Bool.noConfusion this
   | cons x l=>exact ⟨x,l,rfl⟩
  ·refine .inr fun d hd=>?_
   have:=List.all_eq_true.mp h5 d hd
   cases d <;> first | exact Bool.noConfusion this | exact ⟨(fun z=>nomatch z),(fun xs z=>nomatch z)⟩
 ·have hp1:H1 p=none:=by
   cases hx:H1 p with
   | none=>rfl
   | some o=>
    have:=keep p o hx
    rw [hp] at this
    cases this
  have kn:Same G (upd G p (.lst ((((us.map V.ref).zip ps).mergeSort Ni).map (·.1)))):=Same.new hp
  have hne:∀ u∈us,u≠p:=fun u hu' e2=>by
   obtain ⟨_,_,_,_,e3⟩:=LiI.paired_ix hpair hu'
   rw [e2,hp] at e3
   cases e3
  have rr2:=FN (((Ag.fresh hp1 _ _ g3).same keep).same kn) (JY kn hpair) (fun u hu'=>by
   rintro (z | z)
   ·exact hus u hu' z
   ·exact hne u hu' z)
  have ee:=JI (ps:=ps) rr2
  have rs:=JE (PySem.W.sort_each (r:=Sa) (s:=Ni) ee fun p hp q hq=>by
   have a1:=(ee.zip p hp).2
   have a2:=(ee.zip q hq).2
   show Zh p.1.2 q.1.2=Zh p.2.2 q.2.2
   rw [a1,a2])
  exact q p _ _ ((s1.trans keep).trans kn) ((s1.trans keep).free hp) upd_same rs
end
theorem S7{X:Cx}{W:WX}{a:Expr}{f:Env→Out Dt}{la:List Nat}{j:Nat}{q1 q2 q3 q4:Pos}(hr:Room j X.A)(ca:X.calm=true)(ha:Bp X W a f la)(gl:Gl X "sorted")(no:X.mg "sorted" = none)(b1:attributeBase a "items" X.env (eval a X.env)=eval a X.env:=by rfl)(ln:(q2.endLine == q3.line)=true:=by rfl)
  (st:starEach [.Call (.Attribute a "items" q2) [] [] q3] X.env=(false,eval (.Call (.Attribute a "items" q2) [] [] q3) X.env) :: starEach [] X.env:=by rfl):Ts X W (.Call (.Name "sorted" q1) [.Call (.Attribute a "items" q2) [] [] q3] [] q4) (Kv f) la:=by
 obtain ⟨t,p,d⟩:=ha
 exact ⟨_,LiI.S2 (by have:=hr.un; omega) ca p gl no b1 ln st,QA d⟩
end FD
namespace FD
open PySem L2 PyProof.Rows PySem.Spec
theorem Nc{X:Cx}{pins:List (Addr × Obj)}{σ:L2.St}{H:Hp}{s:Shared}(I:Inv X pins σ H s):∀ {ps:List Addr} {kvs:List (Key × V)},Paired (fun p kv=>SqT X.K H p [kV kv.1,kv.2]) ps kvs →
  ∃ (prs:List (Key × Value)) (vps:List (Value × Value)),KV kvs prs∧prs.length=ps.length∧vps.length=ps.length ∧
   ∀ (j:Nat) (u y:Value),vps[j]? = some (u,y)→∃ (b:Addr) (k:Key),ps[j]? = some b∧prs[j]? = some (k,y)∧IsTup s.heap b #[u,y]∧keyIs k u=true
 | _,_,.nil=>⟨[],[],.nil,rfl,rfl,fun j u y e=>by simp at e⟩
 | _,_,.cons (a:=p) (b:=kv) h t=>by
  obtain ⟨prs,vps,r,hl,hl2,hp⟩:=Nc I t
  obtain ⟨Hw,rv,ht,_⟩:=I.tuple h
  obtain ⟨u,y,ei,ru,ry⟩:=vals2 rv
  subst ei
  refine ⟨(kv.1,y) :: prs,(u,y) :: vps,.cons ⟨rfl,ry⟩ r,by rw [List.length_cons,List.length_cons,hl],by rw [List.length_cons,List.length_cons,hl2],fun j u' y' e=>?_⟩
  cases j with
  | zero=>
   have e':(u,y)=(u',y'):=Option.some.inj e
   cases e'
   exact ⟨p,kv.1,rfl,rfl,ht,kV_is (P:=X.prog) (w:=X.w) ru⟩
  | succ j=>
   obtain ⟨b,k,e1,e2,e3,e4⟩:=hp j u' y' (by simpa using e)
   exact ⟨b,k,by simpa using e1,by simpa using e2,e3,e4⟩
def UW(K:PySem.W.Frag):List V→Hp→VK→Prop:=fun xs H Q=>∃ (a:Addr) (o:Obj) (ps:List Addr) (kvs:List (Key × V)),xs=[.ref a]∧H a=some (.frz o (.tup (ps.map V.ref)))∧o.dict=none ∧
 Paired (fun p kv=>SqT K H p [kV kv.1,kv.2]) ps kvs∧∀ p,H p=none→Q (.ref p) (upd H p (.dK (mergeK [] kvs)))
theorem QT{X:Cx}(hcalm:X.calm=true):CallR X (.type "dict") (UW X.K):=by
 intro pins s σ H xs us Q I r q
 obtain ⟨a,o,ps,kvs,ex,hk,hd,hp,q⟩:=q
 subst ex
 obtain ⟨u,eu,rx⟩:=vals1 r
 subst eu
 cases rx
 obtain ⟨ho,hz,Hw,rv,o',ho',hc,n,hdat⟩:=(show ObjOk X.prog X.w H s.heap a (.frz o (.tup (ps.map V.ref))) from I.hok a _ hk)
 rw [ho] at ho'
 cases ho'
 have ei:=refs_at rv
 subst ei
 rw [List.length_map] at hz
 obtain ⟨prs,vps,rel,hl,hl2,hpr⟩:=Nc I hp
 refine _root_.PySem.call_dict_pairs (knd:=mixKind X.prog X.w) (kvs:=prs) (PairArg.tuple a (ps.map Value.ref).toArray (fun j=>ps.getD j 0) vps) (I.ok.hd hcalm) ⟨⟨o,n,ho,hc,hd,hdat⟩,by simp [hl2],fun j k v e=>?_⟩ ⟨by rw [hl,hl2],fun j k v e=>?_⟩ (by rw [hl2]; exact hz) fun h' tk hd' kp=>?_
 ·obtain ⟨b,k',e1,e2,e3,e4⟩:=hpr j k v e
  have eg:ps.getD j 0=b:=by rw [List.getD_eq_getElem?_getD,e1] <;> rfl
  show (ps.map Value.ref).toArray[j]? = some (Value.ref (ps.getD j 0))∧PairAt s.heap (ps.getD j 0) k v
  rw [eg]
  exact ⟨by simp [e1],.inl e3⟩
 ·obtain ⟨b,k',e1,e2,e3,e4⟩:=hpr j k v e
  exact ⟨k',e2,e4⟩
 ·have hm:(s.heap.objs.size == sysModules)=false:=beq_eq_false_iff_ne.mpr (Nat.ne_of_gt I.big)
  have hlen:(mergeK [] kvs).length≤sizeLine:=by
   refine Nat.le_trans (length_mergeK kvs []) ?_
   rw [List.length_nil,Nat.zero_add,rel.length,hl]
   exact hz
  exact ⟨.ref s.heap.objs.size,upd H s.heap.objs.size (.dK (mergeK [] kvs)),I.laid (t':=tk) (fun b u e=>kp b u (fun z=>nomatch z) e) (Nat.le_refl _) (show ObjOk X.prog X.w _ _ _ (.dK (mergeK [] kvs)) from ⟨hlen,hm,merged [] prs,KV.merge rel .nil,hd'⟩),rfl,q _ (I.hok.fresh (Nat.le_refl _))⟩
end FD
namespace FD
open PySem L2 PyProof.Rows PySem.Spec
def Xx(K:PySem.W.Frag):List V→Hp→VK→Prop:=fun xs H Q=>∃ p ys,xs=[.ref p]∧SqL K H p ys∧∀ (l:Addr) (o:Obj),H l=none→o.dict=none→Q (.ref l) (upd H l (.frz o (.tup ys)))
theorem SJ{X:Cx}:CallR X (.type "tuple") (Xx X.K):=by
 intro pins s σ H xs us Q I r h
 obtain ⟨p,ys,rfl,hq,q⟩:=h
 obtain ⟨u,rfl,rx⟩:=vals1 r
 cases rx
 obtain ⟨Hw,r',pl,hz⟩:=I.list hq
 have hlen:=r'.length
 refine call_tuple_list pl.isList (fun h' kp=>?_) (by simp only [List.size_toArray] <;> omega)
 have I1:Inv X pins σ H { s with heap:=h' }:=I.kept (t':=s.toks) kp
 have I2:Inv X pins σ (upd H h'.objs.size (.frz { cls:=.type "tuple",data:=.seq Hw.toArray } (.tup ys))) { s with heap:=h'.push { cls:=.type "tuple",data:=.seq Hw.toArray } }:=
  I1.laid (t':=s.toks) (fun b o e=>Heap.get?_push_of_some _ e) (Nat.le_refl _) (show ObjOk X.prog X.w _ _ _ (.frz { cls:=.type "tuple",data:=.seq Hw.toArray } (.tup ys)) from ⟨Heap.get?_push_size _ rfl,hz,Hw,r',IsTup.new _ _⟩)
 exact ⟨.ref h'.objs.size,_,I2,rfl,q _ _ (I1.hok.fresh (Nat.le_refl _)) rfl⟩
end FD
namespace FD
open PySem L2 PyProof.Rows PySem.Spec
def Jp:List Dt→Option Dt
 | [.lst ds]=>some (.ptp ds)
 | _=>none
theorem L0{ds:List Dt}:Jp [.lst ds]=some (.ptp ds):=rfl
theorem Sn{K:PySem.W.Frag}:P9 K (Xx K) Jp:=by
 intro μ H A ds d vs Q ha r e q
 unfold Jp at e
 split at e
 ·rename_i es
  cases e
  obtain ⟨v,rfl,rr⟩:=B5 r
  obtain ⟨a,us,rfl,hs,r2⟩:=Ju (d:=.lst es) (ds:=es) rfl rr
  refine ⟨a,us,rfl,hs,fun l o hl ho=>q (.ref l) _ (Same.new hl) ?_⟩
  unfold Rep
  exact ⟨l,us,rfl,⟨fun z=>by have:=ha l z; rw [hl] at this; exact this,o,upd_same,ho⟩,r2.same (Same.new hl)⟩
 ·cases e
def prD:Dt→Option (Key × Dt)
 | .tup [.int i,d]=>some (.inl i,d)
 | .tup [.str s,d]=>some (.inr s,d)
 | _=>none
def Sq:List Dt→Option (List (Key × Dt))
 | []=>some []
 | d :: ds=>(prD d).bind fun p=>(Sq ds).map (p :: ·)
def Jv:List Dt→Option Dt
 | [.ptp ds]=>(Sq ds).bind fun ps=>if (ps.map (·.1)).Nodup then some (.dic (ps.map (·.1)) (ps.map (·.2))) else none
 | _=>none
theorem Zz{κ:KM}{H:Hp}{A:Ad}{d:Dt}{p:Key × Dt}{v:V}(h:prD d=some p)(r:Rep κ H A d v):∃ (a:Addr) (u:V),v=.ref a∧SqT κ.K H a [kV p.1,u]∧Rep κ H A p.2 u:=by
 unfold prD at h
 split at h
 ·cases h
  unfold Rep at r
  obtain ⟨a,vs,rfl,hs,r⟩:=r
  obtain ⟨x,y,rfl,r1,r2⟩:=PY r
  have e:x=.int _:=r1
  subst e
  exact ⟨a,y,rfl,SqT.TH hs,r2⟩
 ·cases h
  unfold Rep at r
  obtain ⟨a,vs,rfl,hs,r⟩:=r
  obtain ⟨x,y,rfl,r1,r2⟩:=PY r
  have e:x=.str _:=r1
  subst e
  exact ⟨a,y,rfl,SqT.TH hs,r2⟩
 ·cases h
theorem Vr{κ:KM}{H:Hp}{A:Ad}:∀ {ds:List Dt} {ps:List (Key × Dt)} {vs:List V},Sq ds=some ps→Ag κ H A ds vs→∃ (as:List Addr) (kvs:List (Key × V)),vs=as.map V.ref∧Paired (fun p kv=>SqT κ.K H p [kV kv.1,kv.2]) as kvs∧kvs.map (·.1)=ps.map (·.1)∧Ag κ H A (ps.map (·.2)) (kvs.map (·.2))
 | [],ps,vs,h,r=>by
  cases h
  unfold Ag at r
  subst r
  exact ⟨[],[],rfl,.nil,rfl,Ag.nil⟩
 | d :: ds,ps,vs,h,r=>by
  unfold Sq at h
  obtain ⟨p,h1,h⟩:=Option.bind_eq_some_iff.mp h
  obtain ⟨ps',h2,rfl⟩:=Option.map_eq_some_iff.mp h
  unfold Ag at r
  obtain ⟨v,us,rfl,r1,r2⟩:=r
  obtain ⟨a,u,rfl,hs,ru⟩:=Zz h1 r1
  obtain ⟨as,kvs,rfl,hp,hk,rr⟩:=Vr h2 r2
  refine ⟨a :: as,(p.1,u) :: kvs,rfl,.cons hs hp,?_,?_⟩
  ·rw [List.map_cons,List.map_cons,hk]
  ·exact Ag.cons ru rr
theorem J5:∀ (more acc:List (Key × V)),(acc.map (·.1) ++ more.map (·.1)).Nodup→mergeK acc more=acc ++ more
 | [],acc,_=>(List.append_nil acc).symm
 | p :: more,acc,h=>by
  have hn:(acc.any fun kv=>decide (kv.1=p.1))=false:=by
   rw [List.any_eq_false]
   intro kv hkv e
   have e':=of_decide_eq_true e
   exact (List.nodup_append.mp h).2.2 _ (List.mem_map.mpr ⟨kv,hkv,rfl⟩) _ List.mem_cons_self e'
  have e1:putK acc p.1 p.2=acc ++ [p]:=by
   unfold putK
   rw [hn,if_neg (by decide)]
  show mergeK (putK acc p.1 p.2) more=_
  rw [e1,J5 more (acc ++ [p]) (by rw [List.map_append,List.append_assoc]; exact h),List.append_assoc]
  rfl
theorem Sw{K:PySem.W.Frag}:P9 K (UW K) Jv:=by
 intro μ H A ds d vs Q ha r e q
 unfold Jv at e
 split at e
 ·rename_i es
  obtain ⟨ps,e1,e⟩:=Option.bind_eq_some_iff.mp e
  obtain ⟨hn,rfl⟩:=AX e
  obtain ⟨v,rfl,rr⟩:=B5 r
  unfold Rep at rr
  obtain ⟨a,us,rfl,⟨_,o,ho,hd⟩,r2⟩:=rr
  obtain ⟨as,kvs,rfl,hp,hk,r3⟩:=Vr e1 r2
  refine ⟨a,o,as,kvs,rfl,ho,hd,hp,fun p hnew=>q (.ref p) _ (Same.new hnew) ?_⟩
  have hm:mergeK [] kvs=kvs:=by
   have:=J5 kvs [] (by rw [List.map_nil,List.nil_append,hk]; exact hn)
   rw [this,List.nil_append]
  rw [hm]
  unfold Rep
  exact ⟨p,kvs,rfl,fun z=>by have:=ha p z; rw [hnew] at this; exact this,.inl upd_same,hk,r3.same (Same.new hnew)⟩
 ·cases e
section
variable {X:Cx} {W:WX} {e:Expr} {fs:Env→Out (List Dt)} {lk:List Nat} {p pos:Pos}
theorem Pp(hg:Gl X "tuple")(hm:X.mg "tuple" = none)(ha:JR X W [e] fs lk)(he:starEach [e] X.env=(false,eval e X.env) :: starEach [] X.env:=by rfl):Bp X W (.Call (.Name "tuple" p) [e] [] pos) (eB Jp fs) lk:=by
 obtain ⟨ta,pa,da⟩:=ha
 exact ⟨_,pe_callTy SJ hg hm (by decide +kernel) pa (by decide) (by decide) he rfl,R8 Sn da⟩
theorem U3(hc:X.calm=true)(hg:Gl X "dict")(hm:X.mg "dict" = none)(ha:JR X W [e] fs lk)(he:starEach [e] X.env=(false,eval e X.env) :: starEach [] X.env:=by rfl):Bp X W (.Call (.Name "dict" p) [e] [] pos) (eB Jv fs) lk:=by
 obtain ⟨ta,pa,da⟩:=ha
 exact ⟨_,pe_callTy (QT hc) hg hm (by decide +kernel) pa (by decide) (by decide) he rfl,R8 Sw da⟩
end
end FD
namespace FD
open PySem L2 PyProof.Rows PySem.Spec
theorem LW(p:Str × NameKind→Bool):∀ (names:List (Str × NameKind)) (x:Str),(names.lookup x=some .cell∨names.lookup x=some .free) →
  ((names.map fun y=>if (y.2 == .free && p y)=true then (y.1,NameKind.cell) else (y.1,y.2)).lookup x=some .cell∨(names.map fun y=>if (y.2 == .free && p y)=true then (y.1,NameKind.cell) else (y.1,y.2)).lookup x=some .free)
 | [],x,h=>by simp at h
 | (n,k) :: r,x,h=>by
  rw [List.map_cons]
  by_cases e:x=n
  ·subst e
   have hk:k=.cell∨k=.free:=by simpa using h
   rcases hk with rfl | rfl
   ·exact .inl (by simp)
   ·by_cases z:p (x,NameKind.free)=true
    ·exact .inl (by simp [z])
    ·exact .inr (by simp [z])
  ·have nb:(x == n)=false:=by simpa using e
   have h':r.lookup x=some .cell∨r.lookup x=some .free:=by simpa [List.lookup_cons,nb] using h
   have q:=LW p r x h'
   have t:∀ k',List.lookup x ((n,k') :: (r.map fun y=>if (y.2 == .free && p y)=true then (y.1,NameKind.cell) else (y.1,y.2)))=(r.map fun y=>if (y.2 == .free && p y)=true then (y.1,NameKind.cell) else (y.1,y.2)).lookup x:=fun k'=>by rw [List.lookup_cons,nb]
   split
   ·rw [t]; exact q
   ·rw [t]; exact q
theorem LG{X:Cx}{s:Shared}{H:Hp}{scope scope2:Scope}{C:Addr}{cl:List (Str × Addr)}{fp:List Addr}{own:List (Str × Nat)}(N:List Str)(hN:X.N=N)(h:blkC N scope scope2 own=true):
  BlkOk (X.blk s H scope (compEnvC scope cl C X.env) fp).N (X.blk s H scope (compEnvC scope cl C X.env) fp).env.scope scope2 own:=by
 subst hN
 have b:=blkOk_by h
 obtain ⟨h1,h2,h3,h4,h5⟩:=b
 refine ⟨h1,h2,h3,fun y hy e=>?_,h5⟩
 have q:=LW (fun y=>X.env.scope.kind == .function && X.env.kindOf y.1 == some .cell) scope.names y.1 (h4 y hy e)
 simp only [← Bool.and_assoc] at q
 exact q
end FD
namespace HotL
open PySem L2 L2H PySem.Spec PyProof.Rows HotX
abbrev St:=L2.St
section
variable {prog:Program} {w:World} {A:Around} {E:Value→Shared→Prop} {s:Shared}
theorem Np{it l x1:Addr}{i:Nat}{items:Array Value}{Q:Option Value→Shared→Prop}(hot:HotAt A x1 s.heap)(hne:x1≠it)
  (hit:s.heap.IsListIter it l i) (hl:s.heap.IsList l items) (hx:items[i]? = none)
  (hQ:∀ h',(∀ b o,b≠it→s.heap.get? b=some o→h'.get? b=some o)→Q none { s with heap:=h' }):wpAny (model prog w) A (pyNext (.ref it)) Q E s:=by
 obtain ⟨o,ho,hc,hd⟩:=id hit
 obtain ⟨ol,hol,_,nl,hdl⟩:=hl
 obtain ⟨hh,o1,vs1,h1,d1,c1⟩:=hot
 unfold pyNext
 refine wpAny_bind (wpAny_attempt (wpAny_callSpecial?_slot (name:=Str.ofString "__next__") hit.typeIs slot_listiter_next
  (wpAny_call_entry slot_listiter_next hit.typeIs entry_listiter_next ?_ (args_listiter_next _))))
 show wpAny _ _ (field (.ref it) 0 >>= _) _ _ s
 refine wpAny_bind (wpAny_field ho hd (x:=.ref l) rfl ?_)
 show wpAny _ _ (if (Value.ref l == Value.none)=true then _ else _) _ _ s
 rw [if_neg (show ¬ ((Value.ref l == Value.none)=true) from Bool.false_ne_true)]
 show wpAny _ _ (field (.ref it) 1 >>= _) _ _ s
 refine wpAny_bind (wpAny_field ho hd (x:=.int i 0) rfl ?_)
 show wpAny _ _ (seqItems? (.ref l) >>= _) _ _ s
 refine wpAny_bind (wpAny_seqItems hol hdl ?_)
 simp only [Int.toNat_natCast,hx]
 refine wpAny_bind (wpAny_rule (wpAny_bind (wpAny_setField ho hd (by simp) ?_)))
 show wpAny _ _ (newExc (.type "StopIteration") [] >>= _) _ _ _
 refine wpAny_bind ?_
 simp only [newExc,newTuple]
 refine wpAny_bind (wpAny_newObj_type ?_ (by size_fits))
 refine wpAny_bind (m:=firstArgMember _ _) (wpAny_of_eq (a:=Value.none) (by first | rfl | (simp only [firstArgMember]; rfl)) ?_)
 refine wpAny_newObj_type ?_ (by size_fits)
 have h2:(s.heap.update it (Obj.mapFields (·.setIfInBounds 0 .none))).get? x1=some o1:=(Heap.get?_update_other _ _ (Ne.symm hne)).trans h1
 refine raiseNew_hot ⟨hh,o1,vs1,Heap.get?_push_of_some _ (Heap.get?_push_of_some _ h2),d1,c1⟩ (Nat.ne_of_lt (Heap.lt_size (Heap.get?_push_of_some _ h2))) (Heap.get?_push_size _ rfl) rfl (by first | (simp; done) | (simp; omega) | (simp only [Array.size_append]; simp; omega)) ?_
 refine wpAny_bind (wpAny_isInstance (T:="StopIteration") (b:=true) ⟨_,Heap.get?_update_self _ (Heap.get?_push_size _ rfl) rfl,rfl⟩ isSubtype_stop ?_)
 refine wpAny_pure (hQ _ fun b o hb e=>?_)
 have e2:(s.heap.update it (Obj.mapFields (·.setIfInBounds 0 .none))).get? b=some o:=(Heap.get?_update_other _ _ (Ne.symm hb)).trans e
 rw [Heap.get?_update_other _ _ (Nat.ne_of_gt (Heap.lt_size (Heap.get?_push_of_some _ e2)))]
 exact Heap.get?_push_of_some _ (Heap.get?_push_of_some _ e2)
end
def U6(X:Cx)(x1:Addr):Prop:=X.A.handled=some (.ref x1)∧(∃ (o:Obj) (vs:Array Value),X.s_0.heap.get? x1=some o∧o.data=.fields vs∧vs[2]? = some .none)∧X.H_0 x1=none∧x1∉X.fs∧x1∉X.ex
theorem U6.at{X:Cx}{x1:Addr}{pins:List (Addr × Obj)}{σ:St}{H:Hp}{s:Shared}(b:U6 X x1)(I:Inv X pins σ H s):HotAt X.A x1 s.heap:=by
 obtain ⟨hh,⟨o,vs,e,d,c⟩,hn,hf,he⟩:=b
 exact ⟨hh,o,vs,I.base.keep x1 o e hn hf he,d,c⟩
def OQ(X:Cx):Prop:=HotC X∨∃ x1,U6 X x1
theorem OQ.at{X:Cx}{pins:List (Addr × Obj)}{σ:St}{H:Hp}{s:Shared}(c:OQ X)(I:Inv X pins σ H s):∃ x1,HotAt X.A x1 s.heap:=by
 rcases c with c | ⟨x1,b⟩
 ·exact c.at I
 ·exact ⟨x1,b.at I⟩
theorem HotC.blk{X:Cx}{pins:List (Addr × Obj)}{σ:St}{H:Hp}{s:Shared}{scope:Scope}{ce:Env}{fp:List Addr}(c:HotC X)(I:Inv X pins σ H s)(hfp:∀ b∈fp,FpOk X pins H b):∃ x1,U6 (X.blk s H scope ce fp) x1:=by
 obtain ⟨p,⟨hh,v1,e1,c1⟩,hp⟩:=c
 obtain ⟨g,n,nl,nf,_⟩:=I.pin p (List.mem_append_left _ hp)
 refine ⟨p.1,hh,⟨p.2,v1,g,e1,c1⟩,n,fun z=>?_,fun z=>(hfp _ z).2.2.2.2.2 p (List.mem_append_left _ hp) rfl⟩
 have z:p.1∈frs X.stack:=z
 rcases I.ok.stk with e | ⟨e,ef⟩
 ·rw [e] at z; exact nf z
 ·rw [e] at z
  have z':p.1∈X.env.locals :: frs X.outer:=by
   have:frs (X.env :: X.outer)=X.env.locals :: frs X.outer:=by simp [frs,ef]
   rw [← this]; exact z
  rcases List.mem_cons.mp z' with z | z
  ·exact nl z
  ·exact nf z
def Zj(K:PySem.W.Frag)(tl:TE):TI:=fun σ H R=>tl σ H fun v H1=>∃ a,v=.ref a∧(∃ xs,SqL K H1 a xs)∧R (Itl K a) H1
section
variable {X:Cx}
theorem X9{tg:Expr}{a it:Addr}{i:Nat}{pins:List (Addr × Obj)}{s:Shared}{σ:St}{H:Hp}{E:Value→Shared→Prop}(I:Inv X pins σ H s)(hf:FpOk X pins H it)(st:s.heap.IsListIter it a i)(hg:(Itl X.K a).go i H):
  wpAny (model X.prog X.w) X.A (pyNext (.ref it)) (fun r s1=>∃ u,r=some u ∧
   wpAny (model X.prog X.w) X.A (letOwnedTupleGo tg (.ref it) u) (fun _ s2=>∃ x H',Inv X pins σ H' s2∧RelV x u∧(Itl X.K a).yld i H x H'∧s2.heap.IsListIter it a (i + 1)∧H' it=none) E s1) E s:=by
 obtain ⟨xs,x,hq,hx⟩:=hg
 obtain ⟨Hw,rv,p,hz⟩:=I.list hq
 obtain ⟨u,hu,ru⟩:=rv.get hx
 obtain ⟨f0,f1,f2,f3,f4,f5⟩:=hf
 refine wpAny_pyNext_list_item st p.isList (x:=u) (by simpa using hu) fun h' st' sb=>?_
 have I1:Inv X pins σ H { s with heap:=h' }:=I.turned (t':=s.toks) (fun b o hb e=>(sb.2 b hb).trans e) f0 f1 f3 f4 f5
 obtain ⟨o,e,c,d⟩:=id st'
 exact ⟨u,rfl,go_of (s:={ s with heap:=h' }) e c d (by decide) ⟨x,H,I1,ru,⟨rfl,fun ys hy=>by rw [I.list_inj hy hq]; exact hx⟩,st',f0⟩⟩
theorem Y2{a it x1:Addr}{i:Nat}{pins:List (Addr × Obj)}{s:Shared}{σ:St}{H:Hp}{E:Value→Shared→Prop}(I:Inv X pins σ H s)(hot:HotAt X.A x1 s.heap)(hne:x1≠it)(hf:FpOk X pins H it)(st:s.heap.IsListIter it a i)(hg:(Itl X.K a).stop i H):
  wpAny (model X.prog X.w) X.A (pyNext (.ref it)) (fun r s1=>r=none∧Inv X pins σ H s1) E s:=by
 obtain ⟨xs,hq,hx⟩:=hg
 obtain ⟨Hw,rv,p,hz⟩:=I.list hq
 obtain ⟨f0,f1,f2,f3,f4,f5⟩:=hf
 have hl:=rv.length
 exact Np hot hne st p.isList (by simp; omega) fun h' eb=>⟨rfl,I.turned (t':=s.toks) (fun b o hb e=>eb b o hb e) f0 f1 f3 f4 f5⟩
theorem Y9{elt tg iter:Expr}{ifs:List Expr}{scope:Scope}{own:List (Str × Nat)}{pos:Pos}{tl:TE}{g:TG}{tt:TT}{te:TE}(hot:HotC X)(hN:X.N.Nodup)(hi:PE X iter tl)(ok:BlkOk X.N X.env.scope scope own)
  (hg:∀ (s:Shared) (H:Hp) (C:Addr) (cl:List (Str × Addr)) (fp:List Addr),PG (X.blk s H scope (compEnvC scope cl C X.env) fp) tg g) (ht:∀ (s:Shared) (H:Hp) (C:Addr) (cl:List (Str × Addr)) (fp:List Addr),PTs (X.blk s H scope (compEnvC scope cl C X.env) fp) ifs tt)
  (he:∀ (s:Shared) (H:Hp) (C:Addr) (cl:List (Str × Addr)) (fp:List Addr),(∃ x1,U6 (X.blk s H scope (compEnvC scope cl C X.env) fp) x1)→PE (X.blk s H scope (compEnvC scope cl C X.env) fp) elt te) (hs:∀ x,foldedSetIterable iter X.env x=pure x:=by intro _; rfl):
  PE X (.ListComp elt [⟨tg,iter,ifs,0⟩] scope pos) (tLc (Zj X.K tl) g tt te (own.map (·.2))):=by
 refine ⟨fun pins s σ H Q I h=>?_⟩
 rw [eval_ListComp]
 have hfree:∀ y∈scope.names,y.2=.free→∃ c,X.env.cells.lookup y.1=some c:=fun y hy e=>by
  rcases ok.free y hy e with k | k
  ·exact I.ok.has _ (.inl k)
  ·exact I.ok.has _ (.inr k)
 refine wpAny_comprehension_free (use:=none) rfl hs (closure_ok hfree) ok.kind (fun y hy e=>by rw [ok.uniq y hy,e])
  (thn (hi.run pins s σ H _ I h) fun xv s1 ⟨x,H2,I1,r1,a,ex,⟨xs0,hq0⟩,q⟩=>?_)
 subst ex
 obtain rfl:xv=Value.ref a:=r1
 obtain ⟨its0,rv0,p0,hz0⟩:=I1.list hq0
 refine wpAny_pyIter_list p0.isList ?_
 have I2:Inv X pins σ H2 { s1 with heap:=s1.heap.push { cls:=.type "list_iterator",data:=.fields #[.ref a,.int 0 0] } }:=I1.kept (t':=s1.toks) fun b o e=>Heap.get?_push_of_some _ e
 have f2:FpOk X pins H2 s1.heap.objs.size:=I1.fpOk (Nat.le_refl _) (I1.hok.fresh (Nat.le_refl _))
 have st2:(s1.heap.push { cls:=.type "list_iterator",data:=.fields #[.ref a,.int 0 0] }).IsListIter s1.heap.objs.size a 0:=⟨_,Heap.get?_push_size _ rfl,rfl,rfl⟩
 generalize s1.heap.objs.size=it at I2 f2 st2 ⊢
 revert I2 st2
 generalize hs2:({ s1 with heap:=s1.heap.push { cls:=.type "list_iterator",data:=.fields #[.ref a,.int 0 0] } }:Shared)=s2
 intro I2 st2
 have st2:s2.heap.IsListIter it a 0:=by rw [← hs2]; exact st2
 refine wpAny_newObj_type (newEnv_comp ?_) (by show 0≤sizeLine; decide)
 generalize hD:s2.heap.objs.size=D
 have hDn:H2 D=none:=I2.hok.fresh (Nat.le_of_eq hD)
 obtain ⟨W,⟨m0,w0⟩,turn⟩:=q D hDn
 -- the list that grows
 generalize hs3:({ s2 with heap:=s2.heap.push { cls:=.type "list",data:=.seq ([]:List Value).toArray } }:Shared)=s3
 have h3:s3.heap=s2.heap.push { cls:=.type "list",data:=.seq ([]:List Value).toArray }:=by rw [← hs3]
 have kp:∀ b o,s2.heap.get? b=some o→s3.heap.get? b=some o:=fun b o e=>by rw [h3]; exact Heap.get?_push_of_some _ e
 have I3:Inv X pins σ (upd H2 D (.lst [])) s3:=by
  rw [← hs3]
  refine I2.laid (t':=s2.toks) (fun b o e=>Heap.get?_push_of_some _ e) (Nat.le_of_eq hD) ⟨Nat.zero_le _,[],0,.nil,?_⟩
  rw [← hD]
  exact Heap.get?_push_size _ rfl
 have Vp:it≠D:=by
  obtain ⟨o,e,_⟩:=id st2
  rw [← hD]
  exact Nat.ne_of_lt (Heap.lt_size e)
 have f3:∀ b∈[it],FpOk X pins (upd H2 D (.lst [])) b∧b < s3.heap.objs.size:=fun b hb=>by
  obtain rfl:b=it:=by simpa using hb
  obtain ⟨o,e,_⟩:=id st2
  exact ⟨⟨by rw [upd_ne Vp]; exact f2.1,f2.2⟩,Heap.lt_size (kp _ _ e)⟩
 have st3:s3.heap.IsListIter it a 0:=st2.at fun o e=>kp _ _ e
 have hb3:=HotL.HotC.blk hot (scope:=scope) (ce:=compEnvC scope (cellsFrom (s3.heap.objs.size + 1) scope.names (cloFrom X.env.cells scope.names [])) s3.heap.objs.size X.env) I3 (fp:=[it]) fun b hb=>(f3 b hb).1
 have I4:=block_start I3 ok hN f3
 have pg:=hg s3 (upd H2 D (.lst [])) s3.heap.objs.size (cellsFrom (s3.heap.objs.size + 1) scope.names (cloFrom X.env.cells scope.names [])) [it]
 have pt:=ht s3 (upd H2 D (.lst [])) s3.heap.objs.size (cellsFrom (s3.heap.objs.size + 1) scope.names (cloFrom X.env.cells scope.names [])) [it]
 have pe:=he s3 (upd H2 D (.lst [])) s3.heap.objs.size (cellsFrom (s3.heap.objs.size + 1) scope.names (cloFrom X.env.cells scope.names [])) [it] hb3
 show codeAny _ _ (.compStart (.ListComp elt [⟨tg,iter,ifs,0⟩] scope pos) 0 (.ref it) (.ref D) (compEnvC scope (cellsFrom (s3.heap.objs.size + 1) scope.names (cloFrom X.env.cells scope.names [])) s3.heap.objs.size X.env)) (compPost (model X.prog X.w) X.A X.xe none _ (.ref D) s3.heap.objs.size) { s3 with heap:=pushCells (s3.heap.push { cls:=.type "dict",data:=.dict #[] }) scope.names }
 generalize hce:compEnvC scope (cellsFrom (s3.heap.objs.size + 1) scope.names (cloFrom X.env.cells scope.names [])) s3.heap.objs.size X.env=ce at I4 pg pt pe hb3 ⊢
 have cL:ce.locals=s3.heap.objs.size:=by subst hce; rfl
 have nfp:(upd H2 D (.lst [])) it=none:=(f3 it (by simp)).1.1
 generalize hH3:upd H2 D (.lst [])=H3 at I3 I4 pg pt pe w0 nfp f3 hb3
 generalize hs4:({ s3 with heap:=pushCells (s3.heap.push { cls:=.type "dict",data:=.dict #[] }) scope.names }:Shared)=s4 at I4 ⊢
 have st4:s4.heap.IsListIter it a 0:=st3.at fun o e=>by rw [← hs4]; exact pushCells_keeps _ _ _ _ (Heap.get?_push_of_some _ e)
 obtain ⟨x1,hb3⟩:=hb3
 have hne:x1≠it:=fun z=>hb3.2.2.2.2 (by rw [z]; exact List.mem_cons_self)
 have stat:∀ {σ':St} {H':Hp} {s':Shared},Inv (X.blk s3 H3 scope ce [it]) [] σ' H' s'→H' it=none→FpOk (X.blk s3 H3 scope ce [it]) [] H' it:=fun {σ' H' s'} I' hn=>
  ⟨hn,(I'.ok.exf it List.mem_cons_self).1,I'.ok.exfs it List.mem_cons_self,.inl List.mem_cons_self,fun x c e=>(I'.ok.exf it List.mem_cons_self).2 x c e,fun p hp=>absurd (show p∈([]:List (Addr × Obj)) ++ [] from hp) (by simp)⟩
 have nocell:∀ {i:Nat} {h:Heap},h.IsListIter it a i→∀ b∈[it],∃ o,h.get? b=some o∧∀ v,o.data≠.cell v:=fun {i h} st b hb=>by
  obtain rfl:b=it:=by simpa using hb
  obtain ⟨o,e,c,d⟩:=st
  exact ⟨o,e,fun v z=>by rw [d] at z; cases z⟩
 have loop:codeAny (model X.prog X.w) X.A (.compLoop (.ListComp elt [⟨tg,iter,ifs,0⟩] scope pos) 0 (.ref it) (.ref D) ce) (compPost (model X.prog X.w) X.A X.xe none (EP X pins σ Q) (.ref D) s3.heap.objs.size) s4:=by
  refine compLoop_any (fun n s'=>∃ i H',Inv (X.blk s3 H3 scope ce [it]) [] (wipe σ (own.map (·.2))) H' s'∧s'.heap.IsListIter it a i∧H' it=none∧W i n H') ?_ m0 ⟨0,H3,I4,st4,nfp,w0⟩
  rintro n s5 ⟨i,H5,I5,st5,n5,w5⟩
  rcases turn i n H5 w5 with ⟨stop,qq⟩ | ⟨go,Nx,hNx,step⟩
  ·refine thnF (Y2 (X:=X.blk s3 H3 scope ce [it]) (E:=fun _ _=>False) I5 (hb3.at I5) hne (stat I5 n5) st5 stop) fun r s6 ⟨hr,I6⟩=>?_
   subst hr
   have I7:Inv X pins σ H5 s6:=I3.call' (ch:=[it]) I6.os I6.base I6.hok I6.bare fun b hb=>⟨(f3 b hb).1.2.2.2.1,(f3 b hb).1.2.1,(f3 b hb).1.2.2.2.2.1,(f3 b hb).1.2.2.2.2.2⟩
   have nC:H5 s3.heap.objs.size=none:=by
    have z:H5 ce.locals=none:=I6.free
    rw [cL] at z
    exact z
   obtain ⟨m,hn,_⟩:=I6.loc
   have hn:s6.heap.Ns ce.locals m:=hn
   rw [cL] at hn
   refine ⟨m,hn,fun h'' sb=>?_⟩
   obtain ⟨f0,f1,f2,f3,f4,f5⟩:=I3.fpOk (Nat.le_refl _) nC
   exact ⟨.ref D,H5,I7.turned (t':=s6.toks) (fun b o hb e=>(sb.2 b hb).trans e) f0 f1 f3 f4 f5,rfl,qq⟩
  ·refine thnF (X9 (X:=X.blk s3 H3 scope ce [it]) (tg:=tg) (E:=fun _ _=>False) I5 (stat I5 n5) st5 go) fun r s6 ⟨u,hr,h6⟩=>?_
   subst hr
   refine thnF h6 fun _ s7 ⟨x,H7,I7,r7,y7,st7,n7⟩=>?_
   have I7':=I7.pinned (fun b hb=>by (have e:b=it:=(by simpa using hb); subst e; exact stat I7 n7)) (nocell st7)
   refine thnF (pg.run _ s7 _ H7 x u _ I7' r7 (step x H7 y7)) fun _ s8 ⟨σ8,H8,I8,hw8,q8⟩=>?_
   refine thnF (pt.run _ s8 σ8 H8 _ I8 q8) fun b s9 ⟨H9,I9,q9⟩=>?_
   have fin:∀ {s':Shared} {H':Hp},Inv (X.blk s3 H3 scope ce [it]) ([] ++ pinsAt [it] s7.heap) σ8 H' s'→Nx H'→∃ m,m < n∧∃ i H',Inv (X.blk s3 H3 scope ce [it]) [] (wipe σ (own.map (·.2))) H' s'∧s'.heap.IsListIter it a i∧H' it=none∧W i m H':=fun {s' H'} I' nx=>by
    obtain ⟨m',hm,w'⟩:=hNx H' nx
    have pin':∀ o,s7.heap.get? it=some o→s'.heap.get? it=some o∧H' it=none:=fun o e=>
     let z:=I'.pin (it,o) (List.mem_append_right _ (List.mem_append_right _ (mem_pinsAt List.mem_cons_self e)))
     ⟨z.1,z.2.1⟩
    have hl:(wipe σ (own.map (·.2))).length=σ8.length:=by rw [← hw8,wipe_length]
    refine ⟨m',hm,i + 1,H',(I'.unpinned (pins:=[])).weak hl (fun j v e=>?_),st7.at fun o e=>(pin' o e).1,?_,w'⟩
    ·rw [← hw8] at e
     exact (wipe_some e).1
    ·obtain ⟨o,e,_⟩:=nocell st7 it List.mem_cons_self
     exact (pin' o e).2
   cases b with
   | false=>
    simp only [Bool.false_eq_true,if_false] at q9 ⊢
    exact fin I9 q9
   | true=>
    simp only [if_true] at q9 ⊢
    refine thnF (pe.run _ s9 σ8 H9 _ I9 q9) fun z s10 ⟨yv,H10,I10,r10,acc,hD10,hz10,nx⟩=>?_
    exact app_ok (X:=X.blk s3 H3 scope ce [it]) I10 hD10 hz10 r10 fun s11 I11=>fin I11 nx
 exact codeAny_compStart_list loop (wpAny_pyIter_listiter st4 loop)
end
end HotL
namespace HotL
open PySem PySem.Calls PyProof.Rows PyProof.V PySem.Spec HotX PySem.W
section
variable {prog:Program} {w:World} {K:Type} [DecidableEq K] {knd:KeyKind prog w K} {A:Around} {E:Value→Shared→Prop} {s:Shared} {kvs:List (K × Value)} {ep:Nat}
theorem He{it d x1:Addr}{f:Bool}{i:Nat}{v0 v6 v7:Value}{Q:Option Value→Shared→Prop}(hot:HotAt A x1 s.heap)(hne:x1≠it)
  (hit:s.heap.get? it=some { cls:=.type "dict_itemiterator",dict:=none,data:=.fields #[v0,.bool f,.ref d,.int i 0,.int kvs.length 0,.int ep 0,v6,v7],slots:=#[] })
  (hm:s.heap.DictAt knd d kvs ep) (hx:kvs[i]? = none)
  (hQ:∀ h',(∀ b o,b≠it→s.heap.get? b=some o→h'.get? b=some o)→Q none { s with heap:=h' }):wpAny (model prog w) A (pyNext (.ref it)) Q E s:=by
 obtain ⟨od,es,hod,hcd,hdd,hk,hpr,hn⟩:=id hm
 obtain ⟨hh,o1,vs1,h1,d1,c1⟩:=hot
 have hT:s.TypeIs (.ref it) "dict_itemiterator":=⟨_,hit,rfl⟩
 unfold pyNext
 refine wpAny_bind (wpAny_attempt (wpAny_callSpecial?_slot (name:=Str.ofString "__next__") hT PySem.F.slot_dict_itemiterator_next
  (wpAny_call_entry PySem.F.slot_dict_itemiterator_next hT PySem.F.entry_dict_itemiterator_next ?_ (PySem.F.args_dict_itemiterator_next_1 _))))
 refine wpAny_bind (wpAny_pure ?_)
 refine wpAny_bind ?_
 refine wpAny_bind ?_
 first | refine wpAny_bind (wpAny_typeNameOfWhole_itemiter hT (wpAny_pure ?_)) | refine wpAny_bind (wpAny_typeNameOf_itemiter hT (wpAny_pure ?_))
 refine wpAny_bind (wpAny_fieldsOf hit rfl ?_)
 have hown:Builtin.Dict_items.ownsTuple "dict_itemiterator" = true:=by decide
 simp only [hown,if_true]
 show wpAny _ _ (if (Value.ref d == Value.none)=true then _ else _) _ _ s
 rw [if_neg (show ¬ ((Value.ref d == Value.none)=true) from Bool.false_ne_true)]
 refine wpAny_bind (wpAny_pure ?_)
 refine wpAny_bind (wpAny_dictEntries hod hdd ?_)
 have hsz:es.size=kvs.length:=by rw [← hpr.length]; simp
 rw [if_neg (by rw [hsz]; simp)]
 refine wpAny_bind (wpAny_pure ?_)
 refine wpAny_bind (wpAny_dictEpoch hod hdd ?_)
 rw [if_neg (by simp)]
 refine wpAny_pure ?_
 have hge:es.size≤i:=by rw [hsz]; simpa using hx
 simp only [show ¬ ((i:Int) < 0) from by omega,if_false,Int.toNat_natCast,Array.getElem?_eq_none hge]
 refine wpAny_bind ?_
 first | refine wpAny_bind (wpAny_typeNameOfWhole_itemiter hT (wpAny_pure ?_)) | refine wpAny_bind (wpAny_typeNameOf_itemiter hT (wpAny_pure ?_))
 show wpAny _ _ (setField (.ref it) 2 .none >>= _) _ _ s
 refine wpAny_bind (wpAny_setField hit rfl (by simp) ?_)
 show wpAny _ _ (newExc (.type "StopIteration") [] >>= _) _ _ _
 refine wpAny_bind ?_
 simp only [newExc,newTuple]
 refine wpAny_bind (wpAny_newObj_type ?_ (by size_fits))
 refine wpAny_bind (m:=firstArgMember _ _) (wpAny_of_eq (a:=Value.none) (by first | rfl | (simp only [firstArgMember]; rfl)) ?_)
 refine wpAny_newObj_type ?_ (by size_fits)
 have h2:(s.heap.update it (Obj.mapFields (·.setIfInBounds 2 .none))).get? x1=some o1:=(Heap.get?_update_other _ _ (Ne.symm hne)).trans h1
 refine raiseNew_hot ⟨hh,o1,vs1,Heap.get?_push_of_some _ (Heap.get?_push_of_some _ h2),d1,c1⟩ (Nat.ne_of_lt (Heap.lt_size (Heap.get?_push_of_some _ h2))) (Heap.get?_push_size _ rfl) rfl (by first | (simp; done) | (simp; omega) | (simp only [Array.size_append]; simp; omega)) ?_
 refine wpAny_bind (wpAny_isInstance (T:="StopIteration") (b:=true) ⟨_,Heap.get?_update_self _ (Heap.get?_push_size _ rfl) rfl,rfl⟩ isSubtype_stop ?_)
 refine wpAny_pure (hQ _ fun b o hb e=>?_)
 have e2:(s.heap.update it (Obj.mapFields (·.setIfInBounds 2 .none))).get? b=some o:=(Heap.get?_update_other _ _ (Ne.symm hb)).trans e
 rw [Heap.get?_update_other _ _ (Nat.ne_of_gt (Heap.lt_size (Heap.get?_push_of_some _ e2)))]
 exact Heap.get?_push_of_some _ (Heap.get?_push_of_some _ e2)
theorem Q0{it d S x1:Addr}{i:Nat}{Q:Option Value→Shared→Prop}(hot:HotAt A x1 s.heap)(hne:x1≠it)(hst:KdxSt s.heap it d S i kvs.length ep)(hm:s.heap.DictAt knd d kvs ep)(hx:kvs[i]? = none)
  (hQ:∀ h',(∀ b o,b≠it→s.heap.get? b=some o→h'.get? b=some o)→Q none { s with heap:=h' }):wpAny (model prog w) A (pyNext (.ref it)) Q E s:=by
 rcases hst with ⟨rfl,ok,ov,hit⟩ | ⟨ok,ov,a,f,oa,hit,_,_,_⟩
 ·exact He hot hne hit hm hx hQ
 ·exact He hot hne hit hm hx hQ
theorem UR{R:Result→Shared→Prop}{S I d x1:Addr}(hot:HotAt A x1 s.heap)(nI:x1≠I)(nS:x1≠S)(lt:S < I)(dS:d≠S)(dI:d≠I)(hn:kvs.length≤sizeLine)(res:Value)
  (hR:∀ h' tk acc c as,(∀ b o,b≠S→b≠I→s.heap.get? b=some o→h'.get? b=some o)→h'.get? S=some { cls:=.type "list",dict:=none,data:=.seq acc c,slots:=#[] }→as.length=kvs.length→KdxG knd kvs I h' as →
   acc.toList=as.map Value.ref→R (.ok (.ret res)) { s with heap:=h',toks:=tk }):
  ∀ (k i:Nat) (h:Heap) (tk c:Nat) (acc:Array Value) (as:List Addr),kvs.length - i=k→i≤kvs.length→KdxSt h I d S i kvs.length ep→h.DictAt knd d kvs ep→(∀ b o,b≠S→b≠I→s.heap.get? b=some o→h.get? b=some o) →
   h.get? S=some { cls:=.type "list",dict:=none,data:=.seq acc c,slots:=#[] }→acc.toList=as.map Value.ref→as.length=i→KdxG knd kvs I h as→I < h.objs.size →
   codeAny (model prog w) A (.builtin "list.extend.loop" ⟨[.ref S,.ref I,res],[]⟩) R { s with heap:=h,toks:=tk }:=by
 obtain ⟨hh,o1,vs1,h1,d1,c1⟩:=hot
 have ne:S≠I:=Nat.ne_of_lt lt
 intro k
 induction k with
 | zero=>
  intro i h tk c acc as hk hi st D kp hS ea el G lI
  refine codeAny_builtin PySem.F.entry_extend_loop ?_
  rw [Around.under_plainId PySem.F.plain_extend_loop _]
  show wpAny _ A.in1 (pyNext (.ref I) >>= _) _ _ _
  refine wpAny_bind (Q0 (s:={ s with heap:=h,toks:=tk }) (A:=A.in1) (x1:=x1) ⟨hh,o1,vs1,kp _ _ nS nI h1,d1,c1⟩ nI st D (List.getElem?_eq_none (by omega)) fun h' he=>?_)
  refine wpAny_pure (hR h' tk acc c as (fun b o b1 b2 e=>he b o b2 (kp b o b1 b2 e)) (he S _ ne hS) (by omega) ⟨G.rise,G.above,fun j a hj=>?_⟩ ea)
  obtain ⟨key,kk,x,e1,e2,e3⟩:=G.pairs j a hj
  exact ⟨key,kk,x,e1,e2,he a _ (Nat.ne_of_gt (G.above a (List.mem_of_getElem? hj))) e3⟩
 | succ k ih=>
  intro i h tk c acc as hk hi st D kp hS ea el G lI
  have hlt:i < kvs.length:=by omega
  obtain ⟨⟨kk,x⟩,hx⟩:∃ p,kvs[i]? = some p:=⟨kvs[i],List.getElem?_eq_getElem hlt⟩
  have za:acc.size=i:=by rw [← Array.length_toList,ea,List.length_map,el]
  have lS:S < h.objs.size:=Heap.lt_size hS
  refine codeAny_builtin PySem.F.entry_extend_loop ?_
  rw [Around.under_plainId PySem.F.plain_extend_loop _]
  show wpAny _ A.in1 (pyNext (.ref I) >>= _) _ _ _
  refine wpAny_bind (kdx_item (s:={ s with heap:=h,toks:=tk }) (S:=S) st lS D hx fun key h' hkey st' ht hz kp'=>?_)
  dsimp only at ht hz kp' ⊢
  have hS':=kp' S _ ne hS
  have up:∀ b o,b≠S→h'.get? b=some o→(h'.update S (Obj.mapSeq (·.push (Value.ref h.objs.size)))).get? b=some o:=fun b o hb e=>(Heap.get?_update_other _ _ (Ne.symm hb)).trans e
  have G':KdxG knd kvs I (h'.update S (Obj.mapSeq (·.push (Value.ref h.objs.size)))) (as ++ [h.objs.size]):=by
   refine ⟨List.pairwise_append.mpr ⟨G.rise,List.pairwise_singleton _ _,fun a ha b hb=>?_⟩,fun a ha=>?_,fun j b hj=>?_⟩
   ·rw [List.mem_singleton.mp hb]
    exact G.there ha
   ·rcases List.mem_append.mp ha with ha | ha
    ·exact G.above a ha
    ·rw [List.mem_singleton.mp ha]; exact lI
   ·by_cases hj1:j < as.length
    ·rw [List.getElem?_append_left hj1] at hj
     obtain ⟨key',k',x',e1,e2,e3⟩:=G.pairs j b hj
     have hb:=G.above b (List.mem_of_getElem? hj)
     exact ⟨key',k',x',e1,e2,up b _ (Nat.ne_of_gt (Nat.lt_trans lt hb)) (kp' b _ (Nat.ne_of_gt hb) e3)⟩
    ·by_cases hj2:j=as.length
     ·subst hj2
      have hb:h.objs.size=b:=by simpa using hj
      subst hb
      exact ⟨key,kk,x,by rw [el]; exact hx,hkey,up _ _ (Nat.ne_of_gt lS) ht⟩
     ·rw [List.getElem?_eq_none (by rw [List.length_append,List.length_singleton]; omega)] at hj
      cases hj
  show wpAny _ A.in1 (updateSeq S (·.push (Value.ref h.objs.size)) >>= _) _ _ _
  refine wpAny_bind ?_
  refine wpAny_updateSeq hS' rfl (wpAny_pure ⟨plainId_quiet PySem.F.plain_extend_loop _,ih (i + 1) _ tk _ (acc.push (Value.ref h.objs.size)) (as ++ [h.objs.size]) (by omega) hlt (st'.keep up (Ne.symm ne)) (D.at' fun o e=>up d o dS (kp' d o dI e))
   (fun b o b1 b2 e=>up b o b1 (kp' b o b2 (kp b o b1 b2 e))) (Heap.get?_update_self _ hS' rfl) (by rw [Array.toList_push,ea,List.map_append]; rfl) (by rw [List.length_append,el]; rfl) G' ?_⟩) (by rw [za]; omega) (by show (acc.push (Value.ref h.objs.size)).size≤sizeLine + 1; rw [Array.size_push,za]; omega)
  have e:(h'.update S (Obj.mapSeq (·.push (Value.ref h.objs.size)))).get? h.objs.size=_:=up _ _ (Nat.ne_of_gt lS) ht
  exact Nat.lt_trans lI (Heap.lt_size e)
theorem QN{R:Result→Shared→Prop}{r d x1:Addr}(hot:HotAt A x1 s.heap)(hv:s.heap.IsItemsView r d)(hm:s.heap.DictAt knd d kvs ep)(S:Addr)(nS:x1≠S)(hSr:S≠r)(dS:d≠S)(res:Value)(c₀:Nat)(hS:s.heap.get? S=some { cls:=.type "list",data:=.seq #[] c₀ })
  (hR:∀ h' tk acc c as,(∀ b o,b≠S→s.heap.get? b=some o→h'.get? b=some o)→h'.get? S=some { cls:=.type "list",dict:=none,data:=.seq acc c,slots:=#[] }→as.length=kvs.length→KdxG knd kvs s.heap.objs.size h' as →
   acc.toList=as.map Value.ref→R (.ok (.ret res)) { s with heap:=h',toks:=tk }) (hn:kvs.length≤sizeLine):
  wpAny (model prog w) A.in1 (Builtin.List.listExtendWith (.ref S) (.ref r) res)
   (fun fin s'=>match fin with | .done f=>R (.ok f) s' | .again c'=>c'.quiet=true∧codeAny (model prog w) A c' R s') (fun e s'=>R (.error e) s') s:=by
 have lS:S < s.heap.objs.size:=Heap.lt_size hS
 have ld:d < s.heap.objs.size:=hm.lt_size
 have l1:x1 < s.heap.objs.size:=by
  obtain ⟨_,o1,_,h1,_⟩:=hot
  exact Heap.lt_size h1
 have go:∀ (h:Heap) (c₁ tk:Nat),(∀ b o,b≠S→(s.heap.push { cls:=.type "dict_itemiterator",data:=.fields #[.none,.bool false,.ref d,.int 0 0,.int kvs.length 0,.int ep 0,.none,.none] }).get? b=some o→h.get? b=some o) →
   h.get? S=some { cls:=.type "list",data:=.seq #[] c₁ }→codeAny (model prog w) A (.builtin "list.extend.loop" ⟨[.ref S,.ref s.heap.objs.size,res],[]⟩) R { s with heap:=h,toks:=tk }:=by
  intro h c₁ tk kp e1
  have hI:=kp s.heap.objs.size _ (Nat.ne_of_gt lS) (Heap.get?_push_size _ rfl)
  refine UR (knd:=knd) (kvs:=kvs) (ep:=ep) (s:=s) hot (Nat.ne_of_lt l1) nS lS dS (Nat.ne_of_lt ld) hn res (fun h' tk' acc c as kp' e' el G ea=>hR h' tk' acc c as (fun b o hb e=>kp' b o hb (Nat.ne_of_lt (Heap.lt_size e)) e) e' el G ea)
   kvs.length 0 h tk c₁ #[] [] (Nat.sub_zero _) (Nat.zero_le _) (.inl ⟨rfl,.none,.none,hI⟩) (hm.at' fun o e=>kp d o dS (Heap.get?_push_of_some _ e)) (fun b o hb _ e=>kp b o hb (Heap.get?_push_of_some _ e)) e1 rfl rfl
   ⟨List.Pairwise.nil,(fun _ ha=>nomatch ha),(fun j a hj=>by simp at hj)⟩ (Heap.lt_size hI)
 unfold Builtin.List.listExtendWith
 refine wpAny_bind (wpAny_typeOf (T:="dict_items") hv.typeIs ?_)
 have n1:Builtin.List.listSameRef (.ref S) (.ref r)=false:=by simp [Builtin.List.listSameRef,hSr]
 simp only [n1,show (Value.type "dict_items" == Value.type "list")=false from by decide,show (Value.type "dict_items" == Value.type "tuple")=false from by decide,Bool.or_false,Bool.false_eq_true,if_false]
 refine wpAny_bind (wpAny_pyIter_items hv hm ?_)
 have e1:=Heap.get?_push_of_some { cls:=.type "dict_itemiterator",data:=.fields #[.none,.bool false,.ref d,.int 0 0,.int kvs.length 0,.int ep 0,.none,.none] } hS
 refine wpAny_bind (wpAny_holding (kdx_hint (let ⟨o,ho,hc,_⟩:=hv; ⟨o,Heap.get?_push_of_some _ ho,hc⟩) ?_))
 refine wpAny_ite_split (fun _=>?_) (fun _=>wpAny_pure ⟨plainId_quiet PySem.F.plain_extend_loop _,go _ c₀ _ (fun b o _ e=>e) e1⟩)
 refine wpAny_bind (wpAny_rule ?_)
 refine wpAny_bind ?_
 show wpAny _ _ (updateSeq S (·.push .none) >>= fun _=>updateSeq S (·.pop)) _ _ _
 refine wpAny_bind (wpAny_updateSeq e1 rfl ?_)
 have e2:=Heap.get?_update_self (Obj.mapSeq (·.push Value.none)) e1 rfl
 refine wpAny_updateSeq (hz:=by seq_fits) e2 rfl ?_
 have e3:=Heap.get?_update_self (Obj.mapSeq (·.pop)) e2 rfl
 refine wpAny_pure ⟨plainId_quiet PySem.F.plain_extend_loop _,go _ _ _ (fun b o hb e=>?_) e3⟩
 exact (Heap.get?_update_other _ _ (Ne.symm hb)).trans ((Heap.get?_update_other _ _ (Ne.symm hb)).trans e)
theorem TX{R:Result→Shared→Prop}{r d x1:Addr}(hot:HotAt A x1 s.heap)(hv:s.heap.IsItemsView r d)(hm:s.heap.DictAt knd d kvs ep)(S:Addr)(nS:x1≠S)(hSr:S≠r)(dS:d≠S)(hS:s.heap.get? S=some { cls:=.type "list",data:=.seq #[] })
  (hR:∀ h' tk acc c as,(∀ b o,b≠S→s.heap.get? b=some o→h'.get? b=some o)→h'.get? S=some { cls:=.type "list",dict:=none,data:=.seq acc c,slots:=#[] }→as.length=kvs.length→KdxG knd kvs S h' as →
   acc.toList=as.map Value.ref→R (.ok (.ret .none)) { s with heap:=h',toks:=tk }) (hn:kvs.length≤sizeLine):
  wpAny (model prog w) A.in1 (Builtin.«list.__init__» ⟨[.ref S,.ref r],[]⟩)
   (fun fin s'=>match fin with | .done f=>R (.ok f) s' | .again c'=>c'.quiet=true∧codeAny (model prog w) A c' R s') (fun e s'=>R (.error e) s') s:=by
 show wpAny _ _ (do let old ← Builtin.List.listItems (.ref S); Builtin.List.listUpdate (.ref S) (fun _=>#[]); letGo old.toList.reverse; Builtin.List.listExtendWith (.ref S) (.ref r) .none) _ _ s
 refine wpAny_bind ?_
 unfold Builtin.List.listItems
 refine wpAny_bind (wpAny_seqItems hS rfl (wpAny_pure ?_))
 show wpAny _ _ (updateSeq S (fun _=>#[]) >>= fun _=>letGo (#[]:Array Value).toList.reverse >>= fun _=>Builtin.List.listExtendWith (.ref S) (.ref r) .none) _ _ s
 refine wpAny_bind (wpAny_updateSeq hS rfl ?_)
 have e1:=Heap.get?_update_self (Obj.mapSeq (fun _=>(#[]:Array Value))) hS rfl
 have oth:∀ b o,b≠S→s.heap.get? b=some o→(s.heap.update S (Obj.mapSeq (fun _=>(#[]:Array Value)))).get? b=some o:=
  fun b o hb e=>(Heap.get?_update_other _ _ (Ne.symm hb)).trans e
 obtain ⟨hh,o1,vs1,h1,d1,c1⟩:=hot
 refine wpAny_bind (wpAny_letGo ?_)
 refine QN (knd:=knd) (kvs:=kvs) (ep:=ep) (x1:=x1) ⟨hh,o1,vs1,oth _ _ nS h1,d1,c1⟩ (let ⟨o,ho,x⟩:=hv; ⟨o,oth r o hSr.symm ho,x⟩) (hm.at' fun o e=>oth d o dS e) S nS hSr dS .none _ e1 (fun h' tk acc c as kp e' el G ea=>?_) hn
 exact hR h' tk acc c as (fun b o hb e=>kp b o hb (oth b o hb e)) e' el (G.low (Nat.le_of_lt (Heap.lt_size e1))) ea
theorem U8{Q:Value→Shared→Prop}{r d x1:Addr}(hot:HotAt A x1 s.heap)(hv:s.heap.IsItemsView r d)(hm:s.heap.DictAt knd d kvs ep)(hn:kvs.length≤sizeLine)
  (hQ:∀ h' tk acc c as,(∀ b o,s.heap.get? b=some o→h'.get? b=some o)→h'.get? s.heap.objs.size=some { cls:=.type "list",dict:=none,data:=.seq acc c,slots:=#[] }→as.length=kvs.length→KdxG knd kvs s.heap.objs.size h' as →
   acc.toList=as.map Value.ref→Q (.ref s.heap.objs.size) { s with heap:=h',toks:=tk }):
  wpAny (model prog w) A (call (.type "list") [.ref r]) Q E s:=by
 refine callType_codes (Q₁:=fun obj s₁=>obj=.ref s.heap.objs.size∧s₁ = { s with heap:=s.heap.push { cls:=.type "list",data:=.seq #[] } }) PySem.F.called_list (PySem.F.typeCall_list_1 _) PySem.F.entry_list_init
  (code_list_new _ ⟨rfl,rfl⟩) fun obj s₁ q=>?_
 obtain ⟨rfl,rfl⟩:=q
 have e0:(s.heap.push { cls:=.type "list",data:=.seq #[] }).get? s.heap.objs.size=some { cls:=.type "list",data:=.seq #[] }:=Heap.get?_push_size _ rfl
 have lr:r < s.heap.objs.size:=let ⟨_,ho,_⟩:=hv; Heap.lt_size ho
 have ld:d < s.heap.objs.size:=hm.lt_size
 obtain ⟨hh,o1,vs1,h1,d1,c1⟩:=hot
 refine ⟨⟨_,e0,rfl⟩,PySem.F.args_list_init_2 _ _,TX (knd:=knd) (kvs:=kvs) (ep:=ep) (A:=A.in1) (x1:=x1) ⟨hh,o1,vs1,Heap.get?_push_of_some _ h1,d1,c1⟩ (let ⟨o,ho,x⟩:=hv; ⟨o,Heap.get?_push_of_some _ ho,x⟩) (hm.push _) _ (Nat.ne_of_lt (Heap.lt_size h1)) (Nat.ne_of_gt lr) (Nat.ne_of_lt ld) e0 (fun h' tk acc c as kp e' el G ea=>?_) hn⟩
 exact ⟨rfl,hQ h' tk acc c as (fun b o e=>kp b o (Nat.ne_of_lt (Heap.lt_size e)) (Heap.get?_push_of_some _ e)) e' el G ea⟩
end
end HotL
namespace HotL
open PySem L2 L2H PySem.Spec PyProof.Rows HotX
theorem Qi{X:Cx}{a:Addr}{oe:Obj}{C:Addr}{d:Option Addr}{pn:List (Addr × Obj)}(hz:L2N.Zn (.ref C) d oe)(hf:∃ vs,oe.data=.fields vs):HotC (X.suite a ((a,oe) :: pn)):=by
 obtain ⟨vs,e⟩:=hf
 exact ⟨(a,oe),⟨rfl,vs,e,hz.2.2 vs e⟩,List.mem_cons_self⟩
theorem YG{X:Cx}{a:Expr}{t:TE}{q1 q2 q3 q4:Pos}(hot:OQ X)(pa:PE X a t)(gl:Gl X "list")(no:X.mg "list" = none)(b1:attributeBase a "items" X.env (eval a X.env)=eval a X.env:=by rfl)(ln:(q2.endLine == q3.line)=true:=by rfl)
  (st:starEach [.Call (.Attribute a "items" q2) [] [] q3] X.env=(false,eval (.Call (.Attribute a "items" q2) [] [] q3) X.env) :: starEach [] X.env:=by rfl):
  PE X (.Call (.Name "list" q1) [.Call (.Attribute a "items" q2) [] [] q3] [] q4) (LiI.YS t):=by
 constructor
 intro pins s σ H Q I go
 refine wpAny_Call_Name_kw (ld_blt I gl no PyProof.Rows.boot_list ?_)
 refine PyProof.Rows.callWith_type1 ?_ st rfl
 rw [st]
 show wpAny _ _ (spliced ((false,eval (.Call (.Attribute a "items" q2) [] [] q3) X.env) :: backTo q4 (starEach [] X.env))) _ _ s
 refine Calls.spliced_cons (wpAny_Call_method (T:="dict") (id:="dict.items") b1 rfl ln F.plainAttrs_dict F.slot_dict_items F.type_dict_items (thn (pa.run pins s σ H _ I go) fun u s1 ⟨v,G,J,rv,d,es,ev,rd,k⟩=>?_))
 subst ev
 obtain rfl:u=Value.ref d:=rv
 obtain ⟨w1,w2,vs,kv,od⟩:=rd.ok J.hok
 obtain ⟨ep,E3⟩:=od.dictAt
 have ll:es.length=vs.length:=Paired.length kv
 have J2:Inv X pins σ G { s1 with heap:=s1.heap.push { cls:=.type "dict_items",data:=.fields #[.ref d] } }:=J.kept (t':=s1.toks) fun b ob e=>Heap.get?_push_of_some _ e
 obtain ⟨x1,h1⟩:=hot.at J2
 refine ⟨od.typeIs,od.mapOf.noDict,?_⟩
 show wpAny _ _ (callWith q3 (.builtin "dict.items") [.ref d] [] []) _ X.xe s1
 refine method_meetsIn F.slot_dict_items F.entry_dict_items rfl (PySem.evalArgs_none ⟨rfl,od.typeIs,F.args_dict_items_1 _,_,meets_dict_items (mixKind X.prog X.w) d w2,⟨vs,od⟩,Calls.spliced_nil ?_⟩)
 refine U8 (knd:=mixKind X.prog X.w) (kvs:=vs) (ep:=ep) h1 ⟨_,Heap.get?_push_size _ rfl,rfl,rfl⟩ (E3.push _) (by omega) fun h' tk acc c bs keep hS hl hG hacc=>?_
 obtain ⟨G',k1,k2,k3,k4,k5,k6,J3⟩:=LiI.items_laid (tk:=tk) J2 w1 kv keep hS hl hG hacc
 exact ⟨.ref _,G',J3,rfl,k G' _ _ k1 k2 k3 k4 k5 k6⟩
end HotL
namespace FD
open PySem L2 PyProof.Rows PySem.Spec HotL
def ZV:Dt→Option (List Dt)
 | .lst ds=>some ds
 | _=>none
def oLst(f:Env→Out Dt):Env→Out (List Dt):=fun ρ=>(f ρ).bind fun a=>DY (ZV a)
section
variable {K:PySem.W.Frag} {W:WX} {lk:List Nat}
theorem WH{tl:TE}{f:Env→Out Dt}(ha:DZ K W tl f lk):XH K W (HotL.Zj K tl) (oLst f) lk:=by
 intro μ H0 A0 ρ σ H R s h
 unfold oLst at h
 refine ha _ _ _ _ _ _ _ s (h.seq fun d _ h1 v H1 s1 r1=>?_)
 obtain ⟨ds,e,q⟩:=Bt h1
 cases d <;> try (cases e; done)
 rename_i es
 cases e
 unfold Rep at r1
 obtain ⟨a,vs,rfl,n,e,r⟩:=r1
 have hB:Bs ⟨K,μ⟩ H1 ρ σ lk a=some (.lst vs):=by rw [F1 fun q=>n (.inr q)]; exact e
 exact ⟨a,rfl,⟨vs,SqL.of e⟩,q _ _ s1 (JB (fun H' hs=>SqL.of (hs _ _ hB)) r.Ze)⟩
end
section
variable {X:Cx} {W:WX}
theorem Sv{a:Expr}{f:Env→Out Dt}{la:List Nat}{q1 q2 q3 q4:Pos}(hot:OQ X)(ha:Bp X W a f la)(gl:Gl X "list")(no:X.mg "list" = none)(b1:attributeBase a "items" X.env (eval a X.env)=eval a X.env:=by rfl)(ln:(q2.endLine == q3.line)=true:=by rfl)
  (st:starEach [.Call (.Attribute a "items" q2) [] [] q3] X.env=(false,eval (.Call (.Attribute a "items" q2) [] [] q3) X.env) :: starEach [] X.env:=by rfl):Ts X W (.Call (.Name "list" q1) [.Call (.Attribute a "items" q2) [] [] q3] [] q4) (Cu f) la:=by
 obtain ⟨t,p,d⟩:=ha
 exact ⟨_,YG hot p gl no b1 ln st,MP d⟩
theorem Ye{elt tg iter:Expr}{ifs:List Expr}{scope:Scope}{pos:Pos}{src:Env→Out Dt}{u:Dt→Env→Option Env}{S lk lt le:List Nat}{t:Env→Out Bool}{f:Env→Out Dt}(own:List (Str × Nat))(hot:L2H.HotC X)(hN:X.N.Nodup)(hi:Bp X W iter src lk)
  (hg:∀ (s:Shared) (H:Hp) (C:Addr) (cl:List (Str × Addr)) (fp:List Addr),TF (X.blk s H scope (compEnvC scope cl C X.env) fp) tg u S)
  (ht:∀ (s:Shared) (H:Hp) (C:Addr) (cl:List (Str × Addr)) (fp:List Addr),PF (X.blk s H scope (compEnvC scope cl C X.env) fp) W0 ifs t lt)
  (he:∀ (s:Shared) (H:Hp) (C:Addr) (cl:List (Str × Addr)) (fp:List Addr),OQ (X.blk s H scope (compEnvC scope cl C X.env) fp)→Bp (X.blk s H scope (compEnvC scope cl C X.env) fp) W0 elt f le)
  (ok:BlkOk X.N X.env.scope scope own:=by exact blkOk_by (by decide +kernel)) (hS:∀ i∈S,i∈own.map (·.2):=by decide) (hs:∀ x,foldedSetIterable iter X.env x=pure x:=by intro _; rfl):
  Ts X W (.ListComp elt [⟨tg,iter,ifs,0⟩] scope pos) (EG u (own.map (·.2)) t f (oLst src) lk) (lk ++ (le ++ own.map (·.2))):=by
 obtain ⟨wi,pi,di⟩:=hi
 refine ⟨_,Y9 (g:=cG X.K u S) (tt:=cT X.K W0 t) (te:=cE X.K W0 f le) hot hN pi ok (fun s H C cl fp=>(hg s H C cl fp).Kl) (fun s H C cl fp=>(ht s H C cl fp).Kl) (fun s H C cl fp hb=>(he s H C cl fp (.inr hb)).Kl) hs,?_⟩
 exact Ga (WH di) (fun μ H0 A0 ρ ρ' σ H d v Q s r e q=>⟨μ,H0,A0,ρ,ρ',d,s,r,e,q⟩) hS (lt:=lt) (fun μ H0 A0 ρ σ H Q s h=>⟨μ,H0,A0,ρ,s,h⟩) (fun μ H0 A0 ρ σ H Q s h=>⟨μ,H0,A0,ρ,s,h⟩)
end
end FD
namespace FD
open PySem L2 PyProof.Rows PySem.Spec
def Xu:Cell→Option Dt
 | .lst ds=>some (.lst ds)
 | .dic ks ds=>some (.dic ks ds)
 | _=>none
def XU(n:Nat)(d:Dt)(ρ:Env):Option (Dt × Env):=match d with
 | .ad k=>(BY n ρ).bind fun cs=>(cs[k]?).bind fun c=>(Xu c).map fun e=>(e,ρ.set n (some (.mh (cs.set k .gone))))
 | d=>some (d,ρ)
def Ec(n:Nat):List Dt→Env→Option (List Dt × Env)
 | [],ρ=>some ([],ρ)
 | d :: ds,ρ=>(XU n d ρ).bind fun p=>(Ec n ds p.2).bind fun q=>some (p.1 :: q.1,q.2)
def JT(n i:Nat):Env→XO Dt:=fun ρ=>match ρ[i]? with
 | some (some (.ol ds))=>(match Ec n ds ρ with
  | some p=>.ok (.lst p.1) (p.2.set i (some (.sh (.lst p.1))))
  | none=>.bad)
 | _=>.bad
section
variable {K:PySem.W.Frag} {S:List Nat} {σ:L2.St} {μ μ':Mu} {H H' H0:Hp} {ρ ρ':Env} {A0:Ad} {lk la lb:List Nat} {W:WX} {d e:Dt} {v:V} {cs cs':List Cell} {n k:Nat} {c:Cell} {a:Addr}
theorem LH(s:StOk ⟨K,μ⟩ H0 A0 H ρ σ){k:Nat}{ks:List Key}{ds:List Dt}{b:Addr}(ec:BY n ρ=some cs)(e1:cs[k]? = some (.dic ks ds))(eb:μ.l[k]? = some b):∃ kvs,H b=some (.dK kvs)∧H0 b=none∧kvs.map (·.1)=ks∧Ag ⟨K,μ⟩ H (Av ⟨K,μ⟩ A0 ρ σ []) ds (kvs.map (·.2)):=by
 obtain ⟨_,_,hc⟩:=s.lo n _ (B3 ec)
 obtain ⟨z,kvs,h1,h2,r⟩:=hc k _ b e1 eb
 exact ⟨kvs,h1,z,h2,r⟩
theorem Wf(s:StOk ⟨K,μ⟩ H0 A0 H ρ σ)(h:XU n d ρ=some (e,ρ'))(r:Rep ⟨K,μ⟩ H (Av ⟨K,μ⟩ A0 ρ σ []) d v):
  StOk ⟨K,μ⟩ H0 A0 H ρ' σ∧(∀ j b,AH ⟨K,μ⟩ ρ' σ j b→AH ⟨K,μ⟩ ρ σ j b)∧(∀ j,j≠n→ρ'[j]? = ρ[j]?)∧Rep ⟨K,μ⟩ H (Av ⟨K,μ⟩ A0 ρ' σ []) e v:=by
 cases d with
 | ad k=>
  unfold XU at h
  obtain ⟨cs,ec,h⟩:=Option.bind_eq_some_iff.mp h
  obtain ⟨c,e1,h⟩:=Option.bind_eq_some_iff.mp h
  have e0:=B3 ec
  unfold Rep at r
  obtain ⟨b,eb,rfl⟩:=r
  cases c with
  | gone=>cases h
  | ins C ns ds=>cases h
  | lst ds=>
   cases h
   obtain ⟨s2,ow⟩:=s.gvC e0 e1 rfl eb
   obtain ⟨vs,h1,h2,r2⟩:=JA s ec e1 eb
   refine ⟨s2,fun j b h=>(ow j b h).1,fun j hj=>List.getElem?_set_ne (fun z=>hj z.symm),?_⟩
   unfold Rep
   refine ⟨b,vs,rfl,fun z=>?_,h1,r2.Bv fun a z=>z.imp id fun ⟨j,nj,o⟩=>⟨j,nj,(ow j a o).1⟩⟩
   rcases z with z | ⟨j,_,o⟩
   ·have q:=s.a0 b z
    rw [h2] at q
    exact GX q rfl
   ·exact (ow j b o).2 rfl
  | dic ks ds=>
   cases h
   obtain ⟨s2,ow⟩:=s.gvC e0 e1 rfl eb
   obtain ⟨kvs,h1,h2,h3,r2⟩:=LH s ec e1 eb
   refine ⟨s2,fun j b h=>(ow j b h).1,fun j hj=>List.getElem?_set_ne (fun z=>hj z.symm),?_⟩
   unfold Rep
   refine ⟨b,kvs,rfl,fun z=>?_,.inl h1,h3,r2.Bv fun a z=>z.imp id fun ⟨j,nj,o⟩=>⟨j,nj,(ow j a o).1⟩⟩
   rcases z with z | ⟨j,_,o⟩
   ·have q:=s.a0 b z
    rw [h2] at q
    exact GX q rfl
   ·exact (ow j b o).2 rfl
 | _=>
  cases h
  exact ⟨s,fun _ _ h=>h,fun _ _=>rfl,r⟩
theorem LL:∀ {ds es:List Dt} {vs:List V} {ρ ρ':Env},StOk ⟨K,μ⟩ H0 A0 H ρ σ→Ec n ds ρ=some (es,ρ')→Ag ⟨K,μ⟩ H (Av ⟨K,μ⟩ A0 ρ σ []) ds vs →
  StOk ⟨K,μ⟩ H0 A0 H ρ' σ∧(∀ j b,AH ⟨K,μ⟩ ρ' σ j b→AH ⟨K,μ⟩ ρ σ j b)∧(∀ j,j≠n→ρ'[j]? = ρ[j]?)∧Ag ⟨K,μ⟩ H (Av ⟨K,μ⟩ A0 ρ' σ []) es vs
 | [],es,vs,ρ,ρ',s,h,r=>by
  cases h
  exact ⟨s,fun _ _ h=>h,fun _ _=>rfl,r⟩
 | d :: ds,es,vs,ρ,ρ',s,h,r=>by
  unfold Ec at h
  obtain ⟨⟨e,ρ1⟩,h1,h⟩:=Option.bind_eq_some_iff.mp h
  obtain ⟨⟨es',ρ2⟩,h2,h⟩:=Option.bind_eq_some_iff.mp h
  cases h
  unfold Ag at r
  obtain ⟨v,us,rfl,r1,r2⟩:=r
  obtain ⟨s1,o1,k1,q1⟩:=Wf s h1 r1
  have r2':Ag ⟨K,μ⟩ H (Av ⟨K,μ⟩ A0 ρ1 σ []) ds us:=r2.Bv fun a z=>z.imp id fun ⟨j,nj,o⟩=>⟨j,nj,o1 j a o⟩
  obtain ⟨s2,o2,k2,q2⟩:=LL s1 h2 r2'
  exact ⟨s2,fun j b h=>o1 j b (o2 j b h),fun j hj=>(k2 j hj).trans (k1 j hj),Ag.cons (q1.Bv fun a z=>z.imp id fun ⟨j,nj,o⟩=>⟨j,nj,o2 j a o⟩) q2⟩
theorem U4{i:Nat}(hS:n∈S)(hi:i∈S)(hni:n≠i):Hl K W S (tVar i) (JT n i) []:=by
 intro μ H0 A0 ρ σ H Q s h
 unfold JT at h
 split at h
 ·rename_i ds e0
  obtain ⟨a,vs,e1,h0,h1,r0⟩:=s.lo i _ e0
  split at h
  ·rename_i p hp
   obtain ⟨es,ρ1⟩:=p
   obtain ⟨s1,o1,k1,q1⟩:=LL s hp r0
   have ei:ρ1[i]? = some (some (.ol ds)):=by rw [k1 i (fun z=>hni z.symm)]; exact e0
   have hil:i < ρ1.length:=(List.getElem?_eq_some_iff.mp ei).1
   have oa:AH ⟨K,μ⟩ ρ1 σ i a:=⟨_,ei,e1⟩
   have rl:Rep ⟨K,μ⟩ H (Av ⟨K,μ⟩ A0 ρ1 σ [i]) (.lst es) (.ref a):=by
    unfold Rep
    refine ⟨a,vs,rfl,fun z=>?_,h1,q1.Bv fun b z=>z.nil⟩
    rcases z with z | ⟨j,nj,o⟩
    ·have q:=s.a0 a z
     rw [h0] at q
     exact GX q rfl
    ·exact nj (List.mem_singleton.mpr (s1.ap j i a o oa))
   have s2:StOk ⟨K,μ⟩ H0 A0 H (ρ1.set i (some (.sh (.lst es)))) σ:=by
    have q:=StOk.JH (F:=K) (m:=μ) (m':=μ) (H':=H) s1 i (some (.sh (.lst es))) (some (.ref a)) (Xt.refl _) (.inl rfl) s1.same (fun _ _ q _=>q) (fun l e2 b h=>by cases e2; exact False.elim h) (fun cs e2=>by cases e2) fun l e2 A' hA=>by
     cases e2
     exact ⟨.ref a,rfl,rl.Bv fun b z=>(hA b z).elim id fun z=>False.elim z⟩
    rw [Bc e1] at q
    exact q
   have o2:∀ j b,AH ⟨K,μ⟩ (ρ1.set i (some (.sh (.lst es)))) σ j b→j≠i∧AH ⟨K,μ⟩ ρ1 σ j b:=fun j b ⟨l,f1,f2⟩=>by
    by_cases hj:i=j
    ·subst hj
     rw [List.getElem?_set_self hil] at f1
     cases f1
     exact False.elim f2
    ·rw [List.getElem?_set_ne hj] at f1
     exact ⟨fun z=>hj z.symm,l,f1,f2⟩
   refine ⟨.ref a,e1,h μ (.ref a) H (Ch.gv hS (fun j b h=>o1 j b (o2 j b h).2) fun j hj=>?_) s2 (rl.Bv fun b z=>z.imp id fun ⟨j,_,o⟩=>⟨j,fun q=>(o2 j b o).1 (List.mem_singleton.mp q),(o2 j b o).2⟩)⟩
   rw [List.getElem?_set_ne (fun z=>hj (by rw [← z]; exact hi))]
   exact k1 j fun z=>hj (by rw [z]; exact hS)
  ·exact False.elim h
 ·exact False.elim h
end
theorem Wo{X:Cx}{W:WX}{S:List Nat}(n i:Nat){x:Str}{p:Pos}(hN:X.N[i]? = some x:=by rfl)(hv:Vis X.env.scope x:=by first | exact Or.inl rfl | exact Or.inr (Or.inl rfl) | exact Or.inr (Or.inr rfl))(hd:(x == ("__debug__" : Str))=false:=by decide)
  (hcd:(x == ("__classdict__" : Str))=false:=by decide) (hS:n∈S:=by decide) (hi:i∈S:=by decide) (hni:n≠i:=by decide):F3 X W S (.Name x p) (JT n i) []:=⟨_,pe_var hN hv hd hcd,U4 hS hi hni⟩
end FD
namespace FD
open PySem L2 PyProof.Rows PySem.Spec
def cellK:Cell→Option (List Dt)
 | .dic ks _=>some (ks.map Iq)
 | _=>none
def KP(n i:Nat):Env→Out (List Dt):=fun ρ=>match ρ[i]? with
 | some (some (.sh (.ad k)))=>DY ((BY n ρ).bind fun cs=>(cs[k]?).bind cellK)
 | _=>.bad
section
variable {K:PySem.W.Frag} {W:WX}
theorem Tt(n i:Nat):VB K W (tCB Qy (tCons (tVar i) tNil)) (KP n i) []:=by
 intro μ H0 A0 ρ σ H Q s h
 unfold KP at h
 split at h
 ·rename_i k e
  obtain ⟨es,e2,q⟩:=Bt h
  obtain ⟨cs,ec,e3⟩:=Option.bind_eq_some_iff.mp e2
  obtain ⟨c,e1,e4⟩:=Option.bind_eq_some_iff.mp e3
  obtain ⟨v,e5,r⟩:=s.lo i _ e
  unfold Rep at r
  obtain ⟨b,eb,rfl⟩:=r
  cases c with
  | gone=>cases e4
  | lst ds=>cases e4
  | ins C ns ds=>cases e4
  | dic ks ds=>
   cases e4
   obtain ⟨kvs,h1,h2,h3,r2⟩:=LH s ec e1 eb
   subst h3
   refine ⟨_,e5,b,kvs,rfl,?_,fun p hp=>?_⟩
   ·exact Rd.of h1
   ·exact q p _ _ (Same.new hp) hp upd_same ((Ag.fresh hp _ _ (Jt kvs)).same (Same.new hp))
 ·exact False.elim h
end
theorem Tc{X:Cx}{W:WX}(n i:Nat){x:Str}{p pos q:Pos}(hc:X.calm=true)(hg:Gl X "list")(hm:X.mg "list" = none)(hN:X.N[i]? = some x:=by rfl)(hv:Vis X.env.scope x:=by first | exact Or.inl rfl | exact Or.inr (Or.inl rfl) | exact Or.inr (Or.inr rfl))(hd:(x == ("__debug__" : Str))=false:=by decide)
  (hcd:(x == ("__classdict__" : Str))=false:=by decide):Ts X W (.Call (.Name "list" p) [.Name x q] [] pos) (KP n i) []:=
 ⟨_,pe_callTy (L6 hc) hg hm boot_list (pa_cons (pe_var hN hv hd hcd) pa_nil) (by decide) (by decide) rfl rfl,Tt n i⟩
end FD
namespace FD
open PySem L2 PyProof.Rows PySem.Spec
def cellAt(b:Dt):Cell→Option Dt
 | .dic ks ds=>Cc (.dic ks ds) b
 | _=>none
def MU(n i:Nat)(fb:Env→Out Dt):Env→Out Dt:=fun ρ=>match ρ[i]? with
 | some (some (.sh (.ad k)))=>(fb ρ).bind fun b=>DY ((BY n ρ).bind fun cs=>(cs[k]?).bind (cellAt b))
 | _=>.bad
section
variable {K:PySem.W.Frag} {W:WX} {lb:List Nat}
theorem US(n i:Nat){tb:TE}{fb:Env→Out Dt}(hb:DZ K W tb fb lb):DZ K W (tDGet (tVar i) tb) (MU n i fb) []:=by
 intro μ H0 A0 ρ σ H Q s h
 unfold MU at h
 split at h
 ·rename_i k e
  obtain ⟨v,e5,r⟩:=s.lo i _ e
  unfold Rep at r
  obtain ⟨p,eb,rfl⟩:=r
  refine ⟨_,e5,?_⟩
  refine hb _ _ _ _ _ _ _ s (h.seq fun b _ h2 v2 H2 s2 r2=>?_)
  obtain ⟨d,e2,q⟩:=Bt h2
  obtain ⟨cs,ec,e3⟩:=Option.bind_eq_some_iff.mp e2
  obtain ⟨c,e1,e4⟩:=Option.bind_eq_some_iff.mp e3
  cases c with
  | gone=>cases e4
  | lst ds=>cases e4
  | ins C ns ds=>cases e4
  | dic ks ds=>
   obtain ⟨kvs,h1,h2',h3,r3⟩:=LH s ec e1 eb
   subst h3
   obtain ⟨k',ek,e6⟩:=Option.bind_eq_some_iff.mp (show (keyD b).bind (fun k=>OG (kvs.map (·.1)) ds k)=some d from e4)
   have e7:=JN ek r2
   subst e7
   obtain ⟨w,ev,rv⟩:=QC (r3.same s2) e6
   exact ⟨p,w,rfl,.inl ⟨kvs,k',Rd.of (s2 _ _ h1),rfl,ev.symm⟩,q _ _ s2 rv⟩
 ·exact False.elim h
end
theorem Wj{X:Cx}{W:WX}{b:Expr}{pos p:Pos}{fb:Env→Out Dt}{lb:List Nat}{j:Nat}{x:Str}(n i:Nat)(hr:Room j X.A)(hb:Bp X W b fb lb)(hN:X.N[i]? = some x:=by rfl)(hv:Vis X.env.scope x:=by first | exact Or.inl rfl | exact Or.inr (Or.inl rfl) | exact Or.inr (Or.inr rfl))(hd:(x == ("__debug__" : Str))=false:=by decide)
  (hcd:(x == ("__classdict__" : Str))=false:=by decide) (hs:NoSl b:=by exact fun _ _=>rfl):Bp X W (.Subscript (.Name x p) b pos) (MU n i fb) []:=by
 obtain ⟨t',p',d'⟩:=hb
 exact ⟨_,pe_dget (u1 hr) (pe_var hN hv hd hcd) p' hs,US n i d'⟩
end FD
namespace FD
open PySem L2 PyProof.Rows PySem.Spec
def Lk(o o':HO):Prop:=o'=o∨∃ (kvs:List (Key × V)) (ob:Obj),(o=.dK kvs∧o'=.frz ob (.dK kvs))∨(o=.frz ob (.dK kvs)∧o'=.dK kvs)
def JW(A:Ad)(H H':Hp):Prop:=∀ a o,¬ A a→H a=some o→∃ o',H' a=some o'∧Lk o o'
theorem JW.tup{A:Ad}{H H':Hp}(h:JW A H H'){a:Addr}{vs:List V}(n:¬ A a)(e:H a=some (.tup vs)):H' a=some (.tup vs):=by
 obtain ⟨o',e',q⟩:=h a _ n e
 rcases q with rfl | ⟨kvs,ob,⟨z,_⟩ | ⟨z,_⟩⟩
 ·exact e'
 ·cases z
 ·cases z
theorem JW.lst{A:Ad}{H H':Hp}(h:JW A H H'){a:Addr}{vs:List V}(n:¬ A a)(e:H a=some (.lst vs)):H' a=some (.lst vs):=by
 obtain ⟨o',e',q⟩:=h a _ n e
 rcases q with rfl | ⟨kvs,ob,⟨z,_⟩ | ⟨z,_⟩⟩
 ·exact e'
 ·cases z
 ·cases z
theorem JW.ftup{A:Ad}{H H':Hp}(h:JW A H H'){a:Addr}{vs:List V}{ob:Obj}(n:¬ A a)(e:H a=some (.frz ob (.tup vs))):H' a=some (.frz ob (.tup vs)):=by
 obtain ⟨o',e',q⟩:=h a _ n e
 rcases q with rfl | ⟨kvs,ob,⟨z,_⟩ | ⟨z,_⟩⟩
 ·exact e'
 ·cases z
 ·cases z
theorem JW.flst{A:Ad}{H H':Hp}(h:JW A H H'){a:Addr}{vs:List V}{ob:Obj}(n:¬ A a)(e:H a=some (.frz ob (.lst vs))):H' a=some (.frz ob (.lst vs)):=by
 obtain ⟨o',e',q⟩:=h a _ n e
 rcases q with rfl | ⟨kvs,ob,⟨z,_⟩ | ⟨z,_⟩⟩
 ·exact e'
 ·cases z
 ·cases z
theorem JW.ins{A:Ad}{H H':Hp}(h:JW A H H'){a C dx:Addr}{fs:List (Str × V)}(n:¬ A a)(e:H a=some (.ins C dx fs)):H' a=some (.ins C dx fs):=by
 obtain ⟨o',e',q⟩:=h a _ n e
 rcases q with rfl | ⟨kvs,ob,⟨z,_⟩ | ⟨z,_⟩⟩
 ·exact e'
 ·cases z
 ·cases z
theorem JW.xd{A:Ad}{H H':Hp}(h:JW A H H'){a:Addr}{fs:List (Str × V)}(n:¬ A a)(e:H a=some (.xd fs)):H' a=some (.xd fs):=by
 obtain ⟨o',e',q⟩:=h a _ n e
 rcases q with rfl | ⟨kvs,ob,⟨z,_⟩ | ⟨z,_⟩⟩
 ·exact e'
 ·cases z
 ·cases z
theorem JW.dk{A:Ad}{H H':Hp}(h:JW A H H'){a:Addr}{kvs:List (Key × V)}(n:¬ A a)(e:PQ H a kvs):PQ H' a kvs:=by
 rcases e with e | ⟨ob1,e⟩
 ·obtain ⟨o',e',q⟩:=h a _ n e
  rcases q with rfl | ⟨kvs,ob,⟨z,rfl⟩ | ⟨z,_⟩⟩
  ·exact .inl e'
  ·cases z
   exact .inr ⟨ob,e'⟩
  ·cases z
 ·obtain ⟨o',e',q⟩:=h a _ n e
  rcases q with rfl | ⟨kvs,ob,⟨z,_⟩ | ⟨z,rfl⟩⟩
  ·exact .inr ⟨_,e'⟩
  ·cases z
  ·cases z
   exact .inl e'
theorem JW.dt{A:Ad}{H H':Hp}(h:JW A H H'){a:Addr}{kvs:List (List Key × V)}(n:¬ A a)(e:OT H a kvs):OT H' a kvs:=by
 rcases e with e | ⟨ob1,e⟩
 ·obtain ⟨o',e',q⟩:=h a _ n e
  rcases q with rfl | ⟨kvs,ob,⟨z,_⟩ | ⟨z,_⟩⟩
  ·exact .inl e'
  ·cases z
  ·cases z
 ·obtain ⟨o',e',q⟩:=h a _ n e
  rcases q with rfl | ⟨kvs,ob,⟨z,_⟩ | ⟨z,_⟩⟩
  ·exact .inr ⟨_,e'⟩
  ·cases z
  ·cases z
section
variable {K:KM} {H H':Hp} {A:Ad}
mutual
theorem Rep.lk(h:JW A H H'):∀ (d:Dt) (v:V),Rep K H A d v→Rep K H' A d v
 | .non,_,r=>r
 | .bl _,_,r=>r
 | .int _,_,r=>r
 | .str _,_,r=>r
 | .ty _,_,r=>r
 | .cls _,_,r=>r
 | .ad k,_,r=>by
  unfold Rep at r ⊢
  exact r
 | .tup ds,_,r=>by
  unfold Rep at r ⊢
  obtain ⟨a,vs,e,h1,h2⟩:=r
  exact ⟨a,vs,e,h1.imp (fun ⟨x,y⟩=>⟨x,h.tup x y⟩) id,Ag.lk h ds vs h2⟩
 | .ptp ds,_,r=>by
  unfold Rep at r ⊢
  obtain ⟨a,vs,e,⟨x,o,y,yd⟩,h2⟩:=r
  exact ⟨a,vs,e,⟨x,o,h.ftup x y,yd⟩,Ag.lk h ds vs h2⟩
 | .ntp ds,_,r=>by
  unfold Rep at r ⊢
  obtain ⟨a,vs,e,⟨x,y⟩,h2⟩:=r
  exact ⟨a,vs,e,⟨x,h.tup x y⟩,Ag.lk h ds vs h2⟩
 | .lst ds,_,r=>by
  unfold Rep at r ⊢
  obtain ⟨a,vs,e,x,y,h2⟩:=r
  exact ⟨a,vs,e,x,h.lst x y,Ag.lk h ds vs h2⟩
 | .fls ds,_,r=>by
  unfold Rep at r ⊢
  obtain ⟨a,vs,e,h1,h2⟩:=r
  exact ⟨a,vs,e,h1.imp (fun ⟨x,o,y⟩=>⟨x,o,h.flst x y⟩) id,Ag.lk h ds vs h2⟩
 | .dic ks ds,_,r=>by
  unfold Rep at r ⊢
  obtain ⟨a,kvs,e,x,y,e2,h2⟩:=r
  exact ⟨a,kvs,e,x,h.dk x y,e2,Ag.lk h ds _ h2⟩
 | .dit ks ds,_,r=>by
  unfold Rep at r ⊢
  obtain ⟨a,kvs,e,x,y,e2,h2⟩:=r
  exact ⟨a,kvs,e,x,h.dt x y,e2,Ag.lk h ds _ h2⟩
 | .obj C ns ds,_,r=>by
  unfold Rep at r ⊢
  obtain ⟨a,dx,fs,e,x,y,e2,h2⟩:=r
  exact ⟨a,dx,fs,e,x,h.ins x y,e2,Ag.lk h ds _ h2⟩
 | .exn a od _ ns ds,_,r=>by
  unfold Rep at r ⊢
  obtain ⟨fs,e,h1,e2,h2⟩:=r
  exact ⟨fs,e,h1.imp id (fun ⟨d,e,x,y⟩=>⟨d,e,x,h.xd x y⟩),e2,Ag.lk h ds _ h2⟩
theorem Ag.lk(h:JW A H H'):∀ (ds:List Dt) (vs:List V),Ag K H A ds vs→Ag K H' A ds vs
 | [],_,r=>by
  unfold Ag at r ⊢
  exact r
 | d :: ds,_,r=>by
  unfold Ag at r ⊢
  obtain ⟨v,vs,e,r1,r2⟩:=r
  exact ⟨v,vs,e,Rep.lk h d v r1,Ag.lk h ds vs r2⟩
end
end
end FD
namespace FD
open PySem L2 PyProof.Rows PySem.Spec
section
variable {K:KM} {H H' H0 H0':Hp} {A:Ad} {l:Lo} {sv:Option (Option V)} {c:Cell} {a:Addr}
def Yu(o:HO):Prop:=∀ ob u,o≠.frz ob u
theorem D5.lk(h:JW A H H')(ho:c.live=true→∀ o,H a=some o→Yu o→H' a=some o)(h0:c.live=true→H0 a=none→H0' a=none)(r:D5 K H0 H A c a):D5 K H0' H' A c a:=by
 cases c with
 | gone=>exact r
 | lst ds=>obtain ⟨z,vs,e,r⟩:=r; exact ⟨h0 rfl z,vs,ho rfl _ e (fun _ _ q=>nomatch q),Ag.lk h _ _ r⟩
 | dic ks ds=>obtain ⟨z,vs,e,e2,r⟩:=r; exact ⟨h0 rfl z,vs,ho rfl _ e (fun _ _ q=>nomatch q),e2,Ag.lk h _ _ r⟩
 | ins C ns ds=>obtain ⟨z,dx,fs,e,e2,r⟩:=r; exact ⟨h0 rfl z,dx,fs,ho rfl _ e (fun _ _ q=>nomatch q),e2,Ag.lk h _ _ r⟩
theorem CW.lk(h:JW A H H')(ho:∀ a,Bq K l sv a→∀ o,H a=some o→Yu o→H' a=some o)(h0:∀ a,Bq K l sv a→H0 a=none→H0' a=none)(r:CW K H0 H A l sv):CW K H0' H' A l sv:=by
 cases l with
 | sh d=>obtain ⟨v,e,r⟩:=r; exact ⟨v,e,Rep.lk h _ _ r⟩
 | ol ds=>obtain ⟨a,vs,e,z,e1,r⟩:=r; exact ⟨a,vs,e,h0 a e z,ho a e _ e1 (fun _ _ q=>nomatch q),Ag.lk h _ _ r⟩
 | od ks ds=>obtain ⟨a,vs,e,z,e1,e2,r⟩:=r; exact ⟨a,vs,e,h0 a e z,ho a e _ e1 (fun _ _ q=>nomatch q),e2,Ag.lk h _ _ r⟩
 | ot ks ds=>obtain ⟨a,vs,e,z,e1,e2,r⟩:=r; exact ⟨a,vs,e,h0 a e z,ho a e _ e1 (fun _ _ q=>nomatch q),e2,Ag.lk h _ _ r⟩
 | mh cs=>
  obtain ⟨r1,r2,r3⟩:=r
  exact ⟨r1,r2,fun k c a e1 e2=>(r3 k c a e1 e2).lk h (fun hv=>ho a ⟨k,c,e1,hv,e2⟩) (fun hv=>h0 a ⟨k,c,e1,hv,e2⟩)⟩
end
section
variable {K:PySem.W.Frag} {μ μ':Mu} {H H' H0:Hp} {A0:Ad} {ρ ρ':Env} {σ σ':L2.St} {d:Addr} {kvs:List (Key × V)}
noncomputable def XT(H0:Hp)(d:Addr)(u:HO):Hp:=fun a=>if a=d then some u else H0 a
theorem Lc{u:HO}{a:Addr}(h:a≠d):XT H0 d u a=H0 a:=if_neg h
theorem Le{u:HO}:XT H0 d u d=some u:=if_pos rfl
theorem StOk.lock(s:StOk ⟨K,μ⟩ H0 A0 H ρ σ)(ob:Obj)(hd:H d=some (.dK kvs))(nd:¬ Av ⟨K,μ⟩ A0 ρ σ [] d):
  StOk ⟨K,μ⟩ (XT H0 d (.frz ob (.dK kvs))) A0 (upd H d (.frz ob (.dK kvs))) ρ σ:=by
 have ls:JW (Av ⟨K,μ⟩ A0 ρ σ []) H (upd H d (.frz ob (.dK kvs))):=fun a o _ e=>by
  by_cases h:a=d
  ·subst h
   rw [hd] at e
   cases e
   exact ⟨_,upd_same,.inr ⟨kvs,ob,.inl ⟨rfl,rfl⟩⟩⟩
  ·exact ⟨o,by rw [upd_ne h]; exact e,.inl rfl⟩
 have own:∀ i a,AH ⟨K,μ⟩ ρ σ i a→a≠d:=fun i a o z=>nd (by rw [← z]; exact .inr ⟨i,(fun q=>nomatch q),o⟩)
 refine ⟨fun a o e=>?_,fun a h=>?_,s.len,fun i l e=>?_,s.ap,s.one,s.nm⟩
 ·by_cases h:a=d
  ·subst h
   rw [Le] at e
   cases e
   exact upd_same
  ·rw [Lc h] at e
   rw [upd_ne h]
   exact s.same a o e
 ·rw [Lc (fun z=>nd (by rw [← z]; exact .inl h))]
  exact s.a0 a h
 ·exact (s.lo i l e).lk ls (fun a o w ew _=>by rw [upd_ne (own i a ⟨l,e,o⟩)]; exact ew) fun a o z=>by rw [Lc (own i a ⟨l,e,o⟩)]; exact z
theorem StOk.unlock(s:StOk ⟨K,μ⟩ H0 A0 H ρ σ)(ob:Obj)(hd:H d=some (.dK kvs))(s':StOk ⟨K,μ'⟩ (XT H0 d (.frz ob (.dK kvs))) A0 H' ρ' σ')(hd':H' d=some (.frz ob (.dK kvs))):
  StOk ⟨K,μ'⟩ H0 A0 (upd H' d (.dK kvs)) ρ' σ':=by
 have ls:JW (Av ⟨K,μ'⟩ A0 ρ' σ' []) H' (upd H' d (.dK kvs)):=fun a o _ e=>by
  by_cases h:a=d
  ·subst h
   rw [hd'] at e
   cases e
   exact ⟨_,upd_same,.inr ⟨kvs,ob,.inr ⟨rfl,rfl⟩⟩⟩
  ·exact ⟨o,by rw [upd_ne h]; exact e,.inl rfl⟩
 have nf:∀ a o,H' a=some o→Yu o→a≠d:=fun a o e n z=>by
  subst z
  rw [hd'] at e
  cases e
  exact n _ _ rfl
 refine ⟨fun a o e=>?_,s.a0,s'.len,fun i l e=>?_,s'.ap,s'.one,s'.nm⟩
 ·by_cases h:a=d
  ·subst h
   have q:=s.same a o e
   rw [hd] at q
   rw [upd_same]
   exact q
  ·rw [upd_ne h]
   exact s'.same a o (by rw [Lc h]; exact e)
 ·refine (s'.lo i l e).lk ls (fun a o w ew n=>by rw [upd_ne (nf a w ew n)]; exact ew) fun a o z=>?_
  by_cases h:a=d
  ·subst h
   rw [Le] at z
   cases z
  ·rw [Lc h] at z
   exact z
end
end FD
namespace FD
open PySem L2 PyProof.Rows PySem.Spec
def Ca(i:Nat):Env→Out (List Dt):=fun ρ=>match ρ[i]? with
 | some (some (.sh (.dic ks _)))=>.ok (ks.map Iq)
 | _=>.bad
def Gh(i:Nat)(u:Dt→Env→Option Env)(b:Env→SOut):Env→SOut:=fun ρ=>match Bj u (Ca i) [i] b ρ with
 | .exc _ _=>.bad
 | r=>r
def Zw(t:TS):TS:=fun D σ H=>t D σ H∨tLock t D σ H
theorem YY{X:Cx}{st:Stmt}{t:TS}(h:PS X st t):PS X st (Zw t):=⟨fun pins s σ H D I hw=>hw.elim (fun hw=>h.run pins s σ H D I hw) fun hw=>(ps_lock h).run pins s σ H D I hw⟩
def lkD(D:Ends)(d:Addr)(od:Obj)(u:HO):Ends:=⟨fun σ' H'=>H' d=some (.frz od u)∧D.nx σ' (upd H' d u),fun v H'=>H' d=some (.frz od u)∧D.rt v (upd H' d u),fun σ' H'=>H' d=some (.frz od u)∧D.bk σ' (upd H' d u),fun σ' H'=>H' d=some (.frz od u)∧D.ct σ' (upd H' d u)⟩
section
variable {K:PySem.W.Frag} {W:WX} {μ μ':Mu} {H H' H0:Hp} {A0:Ad} {ρ ρ':Env} {σ σ':L2.St} {d:Addr} {kvs:List (Key × V)} {D:Ends}
theorem JW.un{A:Ad}{ob:Obj}(hd':H' d=some (.frz ob (.dK kvs))):JW A H' (upd H' d (.dK kvs)):=fun a o _ e=>by
 by_cases h:a=d
 ·subst h
  rw [hd'] at e
  cases e
  exact ⟨_,upd_same,.inr ⟨kvs,ob,.inr ⟨rfl,rfl⟩⟩⟩
 ·exact ⟨o,by rw [upd_ne h]; exact e,.inl rfl⟩
theorem AK.lock(s:StOk ⟨K,μ⟩ H0 A0 H ρ σ)(ob:Obj)(hd:H d=some (.dK kvs)){o:SOut}(hx:∀ x ρ',o≠.exc x ρ')(h:AK K W μ H0 A0 o D):AK K W μ (XT H0 d (.frz ob (.dK kvs))) A0 o (lkD D d ob (.dK kvs)):=by
 have z:∀ {μ':Mu} {ρ':Env} {σ':L2.St} {H':Hp},StOk ⟨K,μ'⟩ (XT H0 d (.frz ob (.dK kvs))) A0 H' ρ' σ'→H' d=some (.frz ob (.dK kvs))∧StOk ⟨K,μ'⟩ H0 A0 (upd H' d (.dK kvs)) ρ' σ':=fun s'=>by
  have e:=s'.same d _ Le
  exact ⟨e,s.unlock ob hd s' e⟩
 match o,hx,h with
 | .ok .nx ρ1,_,h=>exact fun μ' σ' H' x s'=>⟨(z s').1,h μ' σ' _ x (z s').2⟩
 | .ok .bk ρ1,_,h=>exact fun μ' σ' H' x s'=>⟨(z s').1,h μ' σ' _ x (z s').2⟩
 | .ok .ct ρ1,_,h=>exact fun μ' σ' H' x s'=>⟨(z s').1,h μ' σ' _ x (z s').2⟩
 | .ok (.rt e) ρ1,_,h=>exact fun μ' v σ' H' x s' r=>⟨(z s').1,h μ' v σ' _ x (z s').2 (Rep.lk (JW.un (z s').1) _ _ r)⟩
 | .exc x ρ1,hx,_=>exact absurd rfl (hx x ρ1)
theorem FV(i:Nat)(a:Addr)(ob:Obj)(e:σ[i]? = some (some (.ref a)))(hH:H a=some (.frz ob (.dK kvs))):XH K W (fun σ' H' R=>σ'=σ→H'=H→iKeys (tVar i) σ' H' R) (Ca i) [i]:=by
 intro μ H0 A0 ρ σ' H' R s h e1 e2
 subst e1 e2
 unfold Ca at h
 split at h
 ·rename_i ks ds e3
  obtain ⟨v,e4,r⟩:=s.lo i _ e3
  rw [e] at e4
  cases e4
  unfold Rep at r
  obtain ⟨b,kvs',eb,nA,g1,g2,g3⟩:=r
  cases eb
  have ek:kvs'=kvs:=by
   rcases g1 with g1 | ⟨o2,g1⟩ <;> rw [hH] at g1 <;> cases g1 <;> rfl
  subst ek
  subst g2
  have hB:Bs ⟨K,μ⟩ H' ρ σ' [i] a=some (.frz ob (.dK kvs')):=by rw [F1 fun ⟨j,_,o⟩=>nA (.inr ⟨j,(fun q=>nomatch q),o⟩)]; exact hH
  have hB:∀ G,Same (Bs ⟨K,μ⟩ H' ρ σ' [i]) G→G a=some (.frz ob (.dK kvs')):=fun G hs=>hs _ _ hB
  refine ⟨_,e,a,ob,rfl,.inl ⟨kvs',hH,h (Itk a ob kvs') H' (Same.refl _) ⟨fun j G hs hj=>⟨hB G hs,by simpa using hj⟩,fun G hs=>⟨hB G hs,by simp⟩,fun j G x G' dd hs y ed=>?_⟩⟩⟩
  obtain ⟨rfl,k,w,ew,rfl⟩:=y
  refine ⟨Same.refl _,fun A _=>?_⟩
  have:dd=Iq k:=by
   rw [List.getElem?_map,List.getElem?_map,ew] at ed
   cases ed
   rfl
  subst this
  exact Lj _
 ·exact False.elim h
theorem Vh(i:Nat){g:TG}{tb:TS}{u:Dt→Env→Option Env}{b:Env→SOut}{S:List Nat}(hg:Wb K g u S)(hb:F7 K W tb b):F7 K W (Zw (tFor (iKeys (tVar i)) g tb)) (Gh i u b):=by
 intro μ H0 A0 ρ σ H D s h
 have hx:∀ x ρ',Bj u (Ca i) [i] b ρ≠.exc x ρ':=fun x ρ' z=>by
  unfold Gh at h
  rw [z] at h
  exact h
 have h:AK K W μ H0 A0 (Bj u (Ca i) [i] b ρ) D:=by
  unfold Gh at h
  split at h
  ·exact False.elim h
  ·exact h
 have hs:∃ ks ds,ρ[i]? = some (some (.sh (.dic ks ds))):=by
  unfold Bj at h
  cases e:Ca i ρ with
  | ok ds=>
   unfold Ca at e
   split at e
   ·exact ⟨_,_,by assumption⟩
   ·cases e
  | bad=>rw [e] at h; exact False.elim h
  | exc x=>unfold Ca at e; split at e <;> cases e
 obtain ⟨ks,ds,e3⟩:=hs
 obtain ⟨v,e4,r⟩:=s.lo i _ e3
 unfold Rep at r
 obtain ⟨a,kvs,rfl,nA,g1,g2,g3⟩:=r
 rcases g1 with g1 | ⟨ob,g1⟩
 ·refine .inr ⟨a,.dK kvs,g1,?_,fun ob=>?_⟩
  ·first | exact rfl | exact trivial | simp [Mut]
  ·exact Oa (FV (H:=upd H a (.frz ob (.dK kvs))) i a ob e4 upd_same) hg hb μ (XT H0 a (.frz ob (.dK kvs))) A0 ρ σ (upd H a (.frz ob (.dK kvs))) (lkD D a ob (.dK kvs)) (s.lock ob g1 nA) (AK.lock s ob g1 hx h) rfl rfl
 ·exact .inl (Oa (FV i a ob e4 g1) hg hb μ H0 A0 ρ σ H D s h rfl rfl)
end
end FD
namespace FD
open PySem L2 PyProof.Rows PySem.Spec
theorem Qr{X:Cx}{W:WX}{S:List Nat}{tg:Expr}{body:List Stmt}{pos p:Pos}{x:Str}{u:Dt→Env→Option Env}{g:Env→SOut}(i:Nat)(hp:PassesOwn (model X.prog X.w) X.A X.env X.xe)(hc:X.calm=true)(hg:TF X tg u S)(hb:F0 X W body g)(hN:X.N[i]? = some x:=by rfl)(hv:Vis X.env.scope x:=by first | exact Or.inl rfl | exact Or.inr (Or.inl rfl) | exact Or.inr (Or.inr rfl))(hd:(x == ("__debug__" : Str))=false:=by decide)
  (hcd:(x == ("__classdict__" : Str))=false:=by decide) (hs:∀ v,foldedSetIterable (.Name x p) X.env v=pure v:=by intro _; rfl):Kd X W (.For tg (.Name x p) body [] pos) (Gh i u g):=by
 obtain ⟨t',p',d'⟩:=hg
 obtain ⟨t2,p2,d2⟩:=hb
 exact ⟨_,YY (ps_for hp hc (pi_keys (pe_var hN hv hd hcd)) p' p2 hs),Vh i d' d2⟩
end FD
namespace FD
open PySem L2 PyProof.Rows PySem.Spec
def MB(i:Nat)(u:Dt→Env→Option Env)(vs:List Nat)(t:Env→Out Bool)(f:Env→Out Dt):Env→Out (List Dt):=fun ρ=>match EG u vs t f (Ca i) [i] ρ with
 | .exc _=>.bad
 | r=>r
def Z0(t:TE):TE:=fun σ H Q=>t σ H Q∨tLockE t σ H Q
theorem XX{X:Cx}{e:Expr}{t:TE}(h:PE X e t):PE X e (Z0 t):=⟨fun pins s σ H Q I hw=>hw.elim (fun hw=>h.run pins s σ H Q I hw) fun hw=>(pe_lock h).run pins s σ H Q I hw⟩
section
variable {K:PySem.W.Frag} {W:WX}
theorem WT(i:Nat){g:TG}{tt:TT}{te:TE}{u:Dt→Env→Option Env}{S vs lt le:List Nat}{t:Env→Out Bool}{f:Env→Out Dt}(hg:Wb K g u S)(hS:∀ i∈S,i∈vs)(ht:OU K W0 tt t lt)(he:DZ K W0 te f le):
  VB K W (Z0 (tLc (iKeys (tVar i)) g tt te vs)) (MB i u vs t f) ([i] ++ (le ++ vs)):=by
 intro μ H0 A0 ρ σ H Q s h
 have hk:∃ ds,EG u vs t f (Ca i) [i] ρ=.ok ds∧RL ⟨K,μ⟩ (Av ⟨K,μ⟩ A0 ρ σ ([i] ++ (le ++ vs))) H Q ds:=by
  unfold MB at h
  cases e:EG u vs t f (Ca i) [i] ρ with
  | ok ds=>rw [e] at h; exact ⟨ds,rfl,h⟩
  | exc x=>rw [e] at h; exact False.elim h
  | bad=>rw [e] at h; exact False.elim h
 obtain ⟨ds,ek,hr⟩:=hk
 have hs:∃ ks es,ρ[i]? = some (some (.sh (.dic ks es))):=by
  unfold EG at ek
  cases e:Ca i ρ with
  | ok ds=>
   unfold Ca at e
   split at e
   ·exact ⟨_,_,by assumption⟩
   ·cases e
  | bad=>rw [e] at ek; cases ek
  | exc x=>unfold Ca at e; split at e <;> cases e
 obtain ⟨ks,es,e3⟩:=hs
 obtain ⟨v,e4,r⟩:=s.lo i _ e3
 unfold Rep at r
 obtain ⟨a,kvs,rfl,nA,g1,g2,g3⟩:=r
 rcases g1 with g1 | ⟨ob,g1⟩
 ·refine .inr ⟨a,.dK kvs,g1,?_,fun ob=>?_⟩
  ·first | exact rfl | exact trivial | simp [Mut]
  ·refine Ga (W:=W) (FV (W:=W) (H:=upd H a (.frz ob (.dK kvs))) i a ob e4 upd_same) hg hS ht he μ (XT H0 a (.frz ob (.dK kvs))) A0 ρ σ (upd H a (.frz ob (.dK kvs))) (fun v H'=>H' a=some (.frz ob (.dK kvs))∧Q v (upd H' a (.dK kvs))) (s.lock ob g1 nA) ?_ rfl rfl
   rw [ek]
   intro p ws H' hs hp hl rr
   have hf:H' a=some (.frz ob (.dK kvs)):=hs _ _ upd_same
   have pa:p≠a:=fun z=>by rw [z,upd_same] at hp; cases hp
   refine ⟨hf,hr p ws (upd H' a (.dK kvs)) (fun b o e=>?_) (by rw [upd_ne pa] at hp; exact hp) (by rw [upd_ne pa]; exact hl) (Ag.lk (JW.un hf) _ _ rr)⟩
   by_cases hb:b=a
   ·subst hb
    rw [g1] at e
    rw [upd_same]
    exact e
   ·rw [upd_ne hb]
    exact hs b o (by rw [upd_ne hb]; exact e)
 ·refine .inl (Ga (W:=W) (FV (W:=W) i a ob e4 g1) hg hS ht he μ H0 A0 ρ σ H Q s ?_ rfl rfl)
  rw [ek]
  exact hr
end
end FD
namespace FD
open PySem L2 PyProof.Rows PySem.Spec
theorem U7{X:Cx}{W:WX}{elt tg:Expr}{ifs:List Expr}{scope:Scope}{pos p:Pos}{x:Str}{u:Dt→Env→Option Env}{S lt le:List Nat}{t:Env→Out Bool}{f:Env→Out Dt}(i:Nat)(own:List (Str × Nat))(hc:X.calm=true)(hN:X.N.Nodup)
  (hg:∀ (s:Shared) (H:Hp) (C:Addr) (cl:List (Str × Addr)) (fp:List Addr),TF (X.blk s H scope (compEnvC scope cl C X.env) fp) tg u S)
  (ht:∀ (s:Shared) (H:Hp) (C:Addr) (cl:List (Str × Addr)) (fp:List Addr),PF (X.blk s H scope (compEnvC scope cl C X.env) fp) W0 ifs t lt)
  (he:∀ (s:Shared) (H:Hp) (C:Addr) (cl:List (Str × Addr)) (fp:List Addr),Bp (X.blk s H scope (compEnvC scope cl C X.env) fp) W0 elt f le)
  (ok:BlkOk X.N X.env.scope scope own:=by exact blkOk_by (by decide +kernel)) (hx:X.N[i]? = some x:=by rfl) (hv:Vis X.env.scope x:=by first | exact Or.inl rfl | exact Or.inr (Or.inl rfl) | exact Or.inr (Or.inr rfl)) (hd:(x == ("__debug__" : Str))=false:=by decide)
  (hcd:(x == ("__classdict__" : Str))=false:=by decide) (hS:∀ i∈S,i∈own.map (·.2):=by decide) (hs:∀ v,foldedSetIterable (.Name x p) X.env v=pure v:=by intro _; rfl):
  Ts X W (.ListComp elt [⟨tg,.Name x p,ifs,0⟩] scope pos) (MB i u (own.map (·.2)) t f) ([i] ++ (le ++ own.map (·.2))):=by
 refine ⟨_,XX (pe_lc (g:=cG X.K u S) (tt:=cT X.K W0 t) (te:=cE X.K W0 f le) hc hN (pi_keys (pe_var hx hv hd hcd)) ok (fun s H C cl fp=>(hg s H C cl fp).Kl) (fun s H C cl fp=>(ht s H C cl fp).Kl) (fun s H C cl fp=>(he s H C cl fp).Kl) hs),?_⟩
 exact WT i (fun μ H0 A0 ρ ρ' σ H d v Q s r e q=>⟨μ,H0,A0,ρ,ρ',d,s,r,e,q⟩) hS (lt:=lt) (fun μ H0 A0 ρ σ H Q s h=>⟨μ,H0,A0,ρ,s,h⟩) (fun μ H0 A0 ρ σ H Q s h=>⟨μ,H0,A0,ρ,s,h⟩)
end FD
namespace FD
open PySem L2 PyProof.Rows PySem.Spec
def XC:List V→Hp→VK→Prop:=fun xs H Q=>∃ a kvs,xs=[V.ref a]∧Rd H a (.dK kvs)∧Q (.int kvs.length) H
theorem Ss{X:Cx}:CallR X (.builtin "len") XC:=by
 intro pins s σ H xs us Q I r h
 obtain ⟨a,kvs,rfl,ha,q⟩:=h
 obtain ⟨u,rfl,ru⟩:=vals1 r
 cases ru
 exact d_len I ha fun t s' I'=>⟨.int kvs.length,H,I',⟨t,rfl⟩,q⟩
def GD:List Dt→Option Dt
 | [.dic ks _]=>some (.int ks.length)
 | _=>none
theorem U1{K:PySem.W.Frag}:P9 K XC GD:=by
 intro μ H A ds d vs Q _ r e q
 unfold GD at e
 split at e
 ·cases e
  obtain ⟨v,rfl,rr⟩:=B5 r
  obtain ⟨a,kvs,rfl,g1,g2,g3⟩:=FA rr
  subst g2
  exact ⟨a,kvs,rfl,g1,q _ H (Same.refl H) (by rw [List.length_map]; rfl)⟩
 ·cases e
theorem QY{ds:List Dt}{d:Dt}(h:GD ds=some d):d.scal=true:=by
 unfold GD at h
 split at h
 ·cases h; rfl
 ·cases h
section
variable {X:Cx} {W:WX} {e:Expr} {fs:Env→Out (List Dt)} {lk:List Nat} {p pos:Pos}
theorem V4(hg:Gl X "len")(hm:X.mg "len" = none)(ha:JR X W [e] fs lk)(he:starEach [e] X.env=(false,eval e X.env) :: starEach [] X.env:=by rfl):Bp X W (.Call (.Name "len" p) [e] [] pos) (eB GD fs) []:=by
 obtain ⟨ta,pa,da⟩:=ha
 exact ⟨_,pe_callB Ss hg hm boot_len pa (by decide) (by decide) he rfl,Ew U1 (fun _ _ h=>QY h) da⟩
end
end FD
namespace Lk13
open PySem L2 PyProof.Rows PySem.Spec FD
noncomputable def FW(K:PySem.W.Frag)(cs:Cs):FD.Env→SOut:=
 (An (BV (t2 (Ab 1) (eB AN (Aa (Ab 0) Ah)) (cI fun i j=>decide (i < j))) (B2 2 (eB Fc (Aa (e2 (Ab 0) (Ab 1) A4) Ah)) []) (B2 2 (e2 (eB Fc (Aa (e2 (eB Mr (Aa (Qt (Ab 0) J6 (Pt (eC (.int 63)))) Ah)) (e2 (eC (.int 48271)) (e2 (eC (.int 7)) (Ab 1) (gI EC (· * ·))) AJ) (gI EC (· * ·))) Ah)) (eC (.int 1000003)) (gI TJ Int.fmod)) []))
 (LQ (WD 3 (VT (xP (Aa (Ab 2) (Aa (Ab 1) (Aa (eT (t2 (Ab 2) (e2 (eC (.int 10)) (eC (.int 18)) (gI SF fun i j=>i ^ j.toNat)) (cI fun i j=>decide (j≤i)))) Ah))))) [2,1]) []))
noncomputable def AW(K:PySem.W.Frag)(cs:Cs):List Dt→List Cell→MO:=J9 2 (runM 3 (FW K cs))
noncomputable def EJ(K:PySem.W.Frag)(cs:Cs):FD.Env→SOut:=
 (An (G5 6 (Ab 0) (eC (.int 1)) (xP (e2 (e2 (Fj 6 (Ab 0)) (eC (.int 1)) A4) (eC (.int 1)) AJ)) [])
 (An (BV (t1 (e2 (Fj 6 (Ab 0)) (eC (.int 2)) A4) BN) (An (B2 2 (e2 (eB Fc (Aa (e2 (Fj 6 (Ab 0)) (eC (.int 0)) A4) Ah)) (Ab 1) (gI TJ Int.fmod)) [])
 (An (G5 6 (Ab 0) (eC (.int 0)) (xP (e2 (eB Fc (Aa (e2 (Fj 6 (Ab 0)) (eC (.int 0)) A4) Ah)) (Ab 1) (gI ME Int.fdiv))) [])
 (Ax (Ab 2) [2]))) Ar)
 (An (B2 3 (e2 (eB Fc (Aa (e2 (e2 (Fj 6 (Ab 0)) (eC (.int 0)) A4) (e2 (eC (.int 48271)) (e2 (eC (.int 69621)) (e2 (Fj 6 (Ab 0)) (eC (.int 1)) A4) (gI EC (· * ·))) AJ) (gI EC (· * ·))) Ah)) (eC (.int 2147483647)) (gI TJ Int.fmod)) [])
 (An (B2 4 (e2 (eB Fc (Aa (e2 (e2 (Ab 3) (Ab 3) (gI EC (· * ·))) (e2 (Ab 3) (e2 (e2 (Fj 6 (Ab 0)) (eC (.int 1)) A4) (eC (.int 1013)) AJ) (gI EC (· * ·))) AJ) Ah)) (eC (.int 2147483629)) (gI TJ Int.fmod)) [])
 (An (B2 5 (e2 (eB Fc (Aa (e2 (Ab 4) (e2 (e2 (Ab 4) (eC (.int 7)) (gI ME Int.fdiv)) (eC (.int 40692)) AJ) (gI EC (· * ·))) Ah)) (eC (.int 2147483587)) (gI TJ Int.fmod)) [])
 (Ax (e2 (eB Fc (Aa (e2 (e2 (e2 (Ab 5) (eC (.int 16)) (gI ME Int.fdiv)) (e2 (eC (.int 5)) (e2 (Fj 6 (Ab 0)) (eC (.int 1)) A4) (gI EC (· * ·))) AJ) (e2 (e2 (Fj 6 (Ab 0)) (eC (.int 1)) A4) (eC (.int 3)) (gI ME Int.fdiv)) AJ) Ah)) (Ab 1) (gI TJ Int.fmod)) []))))))
noncomputable def Ai(K:PySem.W.Frag)(cs:Cs):List Dt→List Cell→MO:=J9 2 (runM 6 (EJ K cs))
noncomputable def Eb(K:PySem.W.Frag)(cs:Cs):FD.Env→SOut:=
 (An (Bj (Ak 1) (BP (Aa (e2 (eB AN (Aa (Ab 0) Ah)) (eC (.int 1)) AJ) Ah)) []
 (BV (t2 (e2 (eC (.str "n")) (eB G9 (Aa (Ab 1) Ah)) AJ) (Ab 0) (CY Hu)) (Ax (e2 (eC (.str "n")) (eB G9 (Aa (Ab 1) Ah)) AJ) []) Ar))
 (Ax (eC (.str "n")) []))
noncomputable def CF(K:PySem.W.Frag)(cs:Cs):List Dt→Out Dt:=D4 1 (AR 2 (Eb K cs))
noncomputable def EU(K:PySem.W.Frag)(cs:Cs):FD.Env→SOut:=
 (An (B2 1 (eC (.str "abcdefghijklmnopqrstuvwxyz")) [])
 (An (Kf (QH (Am 5 (Ai K cs) (xP (Aa (Ab 0) (Aa (eC (.int 3)) Ah))) [0]) (xP (eC (.int 0))) (cI fun i j=>decide (j < i))) (LQ (x2 (xP (eL (FZ (Aa (eC (.str "b")) (Aa (eC (.str "a")) (Aa (eC (.str "a.2")) (Aa (eC (.str "ab")) (Aa (eC (.str "cut")) (Aa (eC (.str "a.3")) (Aa (eC (.str "m1")) (Aa (eC (.str "z.9z")) Ah))))))))))) (Am 5 (Ai K cs) (xP (Aa (Ab 0) (Aa (eC (.int 8)) Ah))) [0]) A4) []) Ar)
 (An (Az 2 (x2 (xP (Ab 1)) (Am 5 (Ai K cs) (xP (Aa (Ab 0) (Aa (eC (.int 26)) Ah))) [0]) A4) [])
 (An (Az 3 (Am 5 (Ai K cs) (xP (Aa (Ab 0) (Aa (eC (.int 4)) Ah))) [0]) [])
 (An (Kf (QH (Am 5 (Ai K cs) (xP (Aa (Ab 0) (Aa (eC (.int 8)) Ah))) [0]) (xP (eC (.int 5))) Fb) (B2 3 (eC (.int 13)) []) Ar)
 (An (Bj (Ak 4) (BP (Aa (Ab 3) Ah)) []
 (Az 2 (x2 (xP (Ab 2)) (x2 (xP (e2 (Ab 1) (eC (.str "0123456789.")) AJ)) (Am 5 (Ai K cs) (xP (Aa (Ab 0) (Aa (eC (.int 37)) Ah))) [0]) A4) AJ) [2,1]))
 (Ax (Ab 2) [2])))))))
noncomputable def C0(K:PySem.W.Frag)(cs:Cs):List Dt→List Cell→MO:=J9 1 (runM 5 (EU K cs))
noncomputable def Ej(K:PySem.W.Frag)(cs:Cs):FD.Env→SOut:=
 (An (EN 2 (FZ Ah) [])
 (An (Bj (Ak 3) (BP (Aa (Ab 1) Ah)) []
 (An (Az 4 (Am 5 (C0 K cs) (xP (Aa (Ab 0) Ah)) [0]) [])
 (An (BV (t2 (Ab 4) (Ab 2) Hu) (B2 4 (Ao (CF K cs) (Aa (Ab 2) Ah)) [2]) Ar)
 (BR 2 (Ab 4) [4]))))
 (Ax (Ab 2) [2])))
noncomputable def Di(K:PySem.W.Frag)(cs:Cs):List Dt→List Cell→MO:=J9 2 (runM 5 (Ej K cs))
noncomputable def DK(K:PySem.W.Frag)(cs:Cs):FD.Env→SOut:=
 (An (B2 1 (eL (FZ (Aa (Jo (Aa (eC (.int 3)) (Aa (eC (.int 0)) Ah))) (Aa (Jo (Aa (eC (.int 2)) (Aa (eC (.int 0)) Ah))) (Aa (Jo (Aa (eC (.int 7)) (Aa (e2 (eC (.int 0)) (eC (.int 3)) (Je (· - ·))) Ah))) (Aa (Jo (Aa (eC (.int 7)) (Aa (e2 (eC (.int 0)) (eC (.int 3)) (Je (· - ·))) Ah))) (Aa (Jo (Aa (eC (.int 20)) (Aa (e2 (eC (.int 0)) (eC (.int 10)) (Je (· - ·))) Ah))) (Aa (Jo (Aa (eC (.int 2000001)) (Aa (e2 (eC (.int 0)) (eC (.int 1000000)) (Je (· - ·))) Ah))) (Aa (Jo (Aa (eC (.int 4)) (Aa (e2 (eC (.int 10)) (eC (.int 20)) (gI SF fun i j=>i ^ j.toNat)) Ah))) Ah))))))))) [])
 (LQ (x2 (xP (e2 (Ab 1) (eL (FZ (Aa (Jo (Aa (eC (.int 4)) (Aa (e2 (eC (.int 0)) (e2 (eC (.int 10)) (eC (.int 20)) (gI SF fun i j=>i ^ j.toNat)) (Je (· - ·))) Ah))) Ah))) AJ)) (Am 2 (Ai K cs) (xP (Aa (Ab 0) (Aa (eC (.int 8)) Ah))) [0]) A4) [1]))
noncomputable def CQ(K:PySem.W.Frag)(cs:Cs):List Dt→List Cell→MO:=J9 1 (runM 2 (DK K cs))
noncomputable def FP(K:PySem.W.Frag)(cs:Cs):FD.Env→SOut:=
 (An (Az 3 (Am 6 (Ai K cs) (xP (Aa (Ab 0) (Aa (eB AN (Aa (Ab 1) Ah)) Ah))) [0]) [])
 (An (EI 4)
 (An (Bj (Ak 5) (AO (e2 (Qt (Ab 1) (Pt (Ab 3)) J6) (Qt (Ab 1) J6 (Pt (Ab 3))) AJ)) [1,1]
 (Kf (QH (Am 6 (Ai K cs) (xP (Aa (Ab 0) (Aa (eC (.int 2)) Ah))) [0]) (xP (eC (.int 0))) Fb) (B9 4 (Ab 5) (x2 (Am 6 (Ai K cs) (xP (Aa (Ab 0) (Aa (e2 (Ab 2) (eC (.int 0)) A4) Ah))) [0]) (xP (e2 (Ab 2) (eC (.int 1)) A4)) AJ) []) Ar))
 (An (BV (t2 (KJ 4) (eC (.int 0)) Fb) (B9 4 (e2 (Ab 1) (Ab 3) A4) (x2 (Am 6 (Ai K cs) (xP (Aa (Ab 0) (Aa (e2 (Ab 2) (eC (.int 0)) A4) Ah))) [0]) (xP (e2 (Ab 2) (eC (.int 1)) A4)) AJ) []) Ar)
 (Ax (Ab 4) [4])))))
noncomputable def Cj(K:PySem.W.Frag)(cs:Cs):List Dt→List Cell→MO:=J9 3 (runM 6 (FP K cs))
noncomputable def Ek(K:PySem.W.Frag)(cs:Cs):FD.Env→SOut:=
 (An (G7 3 (Aa (Ab 2) Ah) [2])
 (An (Gh 1 (Ak 4)
 (B9 3 (Ab 4) (x2 (xP (e2 (Ab 1) (Ab 4) Cc)) (Am 5 (Ai K cs) (xP (Aa (Ab 0) (Aa (eC (.int 2)) Ah))) [0]) AJ) [1,4]))
 (Ax (Ab 3) [3])))
noncomputable def Cn(K:PySem.W.Frag)(cs:Cs):List Dt→List Cell→MO:=J9 3 (runM 5 (Ek K cs))
noncomputable def ED(K:PySem.W.Frag)(cs:Cs):FD.Env→SOut:=
 (An (EN 4 (FZ Ah) [])
 (An (Bj (Ak 5) (BP (Aa (Ab 3) Ah)) []
 (An (Az 6 (Am 9 (AW K cs) (xP (Aa (Ab 0) (Aa (e2 (eC (.int 2)) (Ab 5) AJ) Ah))) [0,5]) [])
 (An (Az 7 (Am 9 (Ai K cs) (xP (Aa (Ab 6) (Aa (eC (.int 6)) Ah))) [6]) [])
 (An (Az 8 (Am 9 (Cj K cs) (xP (Aa (Ab 6) (Aa (Ab 1) (Aa (Ab 2) Ah)))) [6,1,2]) [])
 (An (BV (CH (t2 (eB AN (Aa (Ab 4) Ah)) (eC (.int 0)) (cI fun i j=>decide (j < i))) (t2 (Ab 7) (eC (.int 1)) Fb)) (Az 8 (xB B4 (Cy (x2 (xP (Ab 4)) (Am 9 (Ai K cs) (xP (Aa (Ab 6) (Aa (eB AN (Aa (Ab 4) Ah)) Ah))) [6]) A4) (xP Ah))) []) Ar)
 (An (BV (CH (t2 (eB AN (Aa (Ab 4) Ah)) (eC (.int 0)) (cI fun i j=>decide (j < i))) (t2 (Ab 7) (eC (.int 2)) Fb)) (Az 8 (Am 9 (Cn K cs) (Cy (xP (Ab 6)) (Cy (x2 (xP (Ab 4)) (Am 9 (Ai K cs) (xP (Aa (Ab 6) (Aa (eB AN (Aa (Ab 4) Ah)) Ah))) [6]) A4) (xP (Aa (Ab 8) Ah)))) [6,8]) []) Ar)
 (BR 4 (Ab 8) [8])))))))
 (Ax (Ab 4) [4])))
noncomputable def DQ(K:PySem.W.Frag)(cs:Cs):List Dt→Out Dt:=D4 4 (Ml 9 (ED K cs))
noncomputable def Ia(K:PySem.W.Frag)(cs:Cs):FD.Env→SOut:=
 (Ax (eB Jp (Aa (eL (Kv (Ab 0))) Ah)) [0])
noncomputable def Gw(K:PySem.W.Frag)(cs:Cs):List Dt→Out Dt:=D4 1 (AR 1 (Ia K cs))
noncomputable def HP(K:PySem.W.Frag)(cs:Cs):FD.Env→SOut:=
 (An (Bj (Hv (BF (Ak 2) (BF (Ak 3) G8))) (AO (Ab 0)) [0]
 (BV (CT (t2 (Ab 2) (Ab 1) (CY Ma)) (t2 (Ab 3) (e2 (Ab 1) (Ab 2) Cc) (cI fun i j=>decide (j < i)))) (Ax (eC (.bl false)) []) Ar))
 (Ax (eC (.bl true)) []))
noncomputable def Ex(K:PySem.W.Frag)(cs:Cs):List Dt→Out Dt:=D4 2 (AR 4 (HP K cs))
noncomputable def EO(K:PySem.W.Frag)(cs:Cs):FD.Env→SOut:=
 (An (B2 2 (eB Jv (Aa (Ab 1) Ah)) [1])
 (An (Bj (Ak 3) (AO (Ab 0)) [0]
 (BV (t1 (Ao (Ex K cs) (Aa (Ab 3) (Aa (Ab 2) Ah))) BN) (Ax (eC (.bl true)) []) Ar))
 (Ax (eC (.bl false)) [])))
noncomputable def C9(K:PySem.W.Frag)(cs:Cs):List Dt→Out Dt:=D4 2 (AR 4 (EO K cs))
noncomputable def IF(K:PySem.W.Frag)(cs:Cs):FD.Env→SOut:=
 (An (B2 1 (eL (lB De (Aa (eL (EG (Ak 2) [2] AD (Jo (Aa (eB AN (Aa (Ab 2) Ah)) (Aa (eB Mr (Aa (eL (EG (Hv (BF (Ak 3) (BF (Ak 4) G8))) [3,4] AD (Ab 4) (AO (Ab 2)) [2])) Ah)) (Aa (Ab 2) Ah)))) (AO (Ab 0)) [0])) Ah))) [0,2,2])
 (An (EN 5 (FZ Ah) [])
 (An (Bj (Hv (BF (Ak 6) (BF (Ak 7) (BF (Ak 2) G8)))) (AO (Ab 1)) [1]
 (BV (Bw (t1 (Ao (C9 K cs) (Aa (Ab 5) (Aa (Ab 2) Ah))) BN)) (BR 5 (Ab 2) [2]) Ar))
 (Ax (eB K3 (Aa (eL (lB De (Aa (Ab 5) Ah))) Ah)) [5]))))
noncomputable def HV(K:PySem.W.Frag)(cs:Cs):List Dt→Out Dt:=D4 1 (AR 8 (IF K cs))
noncomputable def HG(K:PySem.W.Frag)(cs:Cs):FD.Env→SOut:=
 (Ax (Ao (HV K cs) (Aa (eL (EG (Ak 1) [1] AD (Ao (Gw K cs) (Aa (Ab 1) Ah)) (AO (Ab 0)) [0])) Ah)) [0,1,1])
noncomputable def HI(K:PySem.W.Frag)(cs:Cs):List Dt→Out Dt:=D4 1 (AR 2 (HG K cs))
noncomputable def EH(K:PySem.W.Frag)(cs:Cs):FD.Env→SOut:=
 (An (BV (t2 (eB AN (Aa (Ab 0) Ah)) (eC (.int 0)) Fb) (Fq cs.c_EmptyForm BA Bk Ah) Ar)
 (Bj (Ak 1) (AO (Ab 0)) [0]
 (BV (t2 (eB GD (Aa (Ab 1) Ah)) (eC (.int 0)) Fb) (Fq cs.c_EmptyForm BA Bk Ah) Ar)))
noncomputable def DU(K:PySem.W.Frag)(cs:Cs):List Dt→Out Dt:=D4 1 (AR 2 (EH K cs))
noncomputable def Eh(K:PySem.W.Frag)(cs:Cs):FD.Env→SOut:=
 (An (Lu (Ao (DU K cs) (Aa (Ab 0) Ah)))
 (Ax (Ao (HI K cs) (Aa (Ab 0) Ah)) [0]))
noncomputable def BS(K:PySem.W.Frag)(cs:Cs):List Dt→Out Dt:=D4 1 (AR 1 (Eh K cs))
noncomputable def Dh(K:PySem.W.Frag)(cs:Cs):FD.Env→SOut:=
 (An (EN 1 (EG (Ak 2) [2] AD (eL (Cu (Ab 2))) (AO (Ab 0)) [0]) [0,2,2])
 (An (FU K cs.all (.ref cs.c_EmptyForm) 3 (Lu (Ao (BS K cs) (Aa (Ab 0) Ah)))
 (fun a d C=>(An (B2 4 (FQ (eB (DB K C a d) (Aa (Ab 3) (Aa (eC (.cls cs.c_Refused)) Ah))) (FQ (eB (DB K C a d) (Aa (Ab 3) (Aa (eC (.cls cs.c_HouseError)) Ah))) (eB (DB K C a d) (Aa (Ab 3) (Aa (eC (.ty "ValueError")) Ah))))) [])
 (An (B2 4 (FQ (Ab 4) (FQ (Oi (eB (DB K C a d) (Aa (Ab 3) (Aa (eC (.cls cs.c_Unfit)) Ah)))) (FQ (Oi (eB (DB K C a d) (Aa (Ab 3) (Aa (eC (.cls cs.c_NoAnswer)) Ah)))) (Oi (eB (DB K C a d) (Aa (Ab 3) (Aa (eC (.cls cs.c_NoName)) Ah))))))) [])
 (Ax (FQ (Ab 4) (eT (t2 (eL (EG (Ak 2) [2] AD (eL (Cu (Ab 2))) (oLst (Ab 0)) [0])) (Ab 1) Fb))) [])))))
 (Ax (eC (.bl false)) [])))
noncomputable def AL(K:PySem.W.Frag)(cs:Cs):List Dt→Out Dt:=D4 1 (AR 5 (Dh K cs))
noncomputable def EE(K:PySem.W.Frag)(cs:Cs):FD.Env→SOut:=
 (An (NV 4 (Sl 9 (Ak 5) [5] (xP AD) (Dr 9 (Aa (Ab 5) Ah) [5]) (xP (AO (Ab 1))) [1]) [1,5])
 (An (Az 6 (Am 9 (Ai K cs) (xP (Aa (Ab 0) (Aa (eB AN (Aa (Ab 1) Ah)) Ah))) [0]) [])
 (An (Az 7 (Am 9 (Ai K cs) (xP (Aa (Ab 0) (Aa (eC (.int 4)) Ah))) [0]) [])
 (An (B2 5 (e2 (Ab 4) (Ab 6) A4) [])
 (An (Az 8 (x2 (xP (Ab 2)) (Am 9 (Ai K cs) (xP (Aa (Ab 0) (Aa (eB AN (Aa (Ab 2) Ah)) Ah))) [0]) A4) [])
 (An (BV (CH (t2 (Ab 7) (eC (.int 1)) Fb) (t2 (eB AN (Aa (Ab 1) Ah)) (eC (.int 1)) (cI fun i j=>decide (j < i)))) (N3 (MY 4 (xP (Ab 6)))) (BV (t2 (Ab 7) (eC (.int 2)) Fb) (CU 4 (Cy (xP (Ab 6)) (Cy (Am 9 (Cj K cs) (xP (Aa (Ab 0) (Aa (Ab 2) (Aa (Ab 3) Ah)))) [0,2,3]) (xP Ah))) [6]) (BV (t2 (Ab 7) (eC (.int 3)) Fb) (Ho 9 (Ab 5) (Ab 8) (x2 (Am 9 (Ai K cs) (xP (Aa (Ab 0) (Aa (e2 (Ab 3) (eC (.int 0)) A4) Ah))) [0]) (xP (e2 (Ab 3) (eC (.int 1)) A4)) AJ) []) (An (B2 8 (e2 (eL (KP 9 5)) (eC (.int 0)) A4) [])
 (Ho 9 (Ab 5) (Ab 8) (x2 (xP (e2 (MU 9 5 (Ab 8)) (eC (.int 1)) AJ)) (x2 (xP (eC (.int 2))) (Am 9 (Ai K cs) (xP (Aa (Ab 0) (Aa (eC (.int 2)) Ah))) [0]) (gI Td (· * ·))) (Je (· - ·))) [])))))
 (LQ (JT 9 4) [])))))))
noncomputable def EF(K:PySem.W.Frag)(cs:Cs):List Dt→List Cell→MO:=J9 4 (runM 9 (EE K cs))
noncomputable def Dl(K:PySem.W.Frag)(cs:Cs):FD.Env→SOut:=
 (Ax (FQ (eB Du (Aa (Ab 0) (Aa (eC (.ty "int")) Ah))) (Oi (eB Du (Aa (Ab 0) (Aa (eC (.ty "bool")) Ah))))) [])
noncomputable def Bl(K:PySem.W.Frag)(cs:Cs):List Dt→Out Dt:=D4 1 (AR 1 (Dl K cs))
noncomputable def EK(K:PySem.W.Frag)(cs:Cs):FD.Env→SOut:=
 (An (BV (CT (Bw (t1 (eB Du (Aa (Ab 0) (Aa (eC (.ty "tuple")) Ah))) BN)) (t2 (eB AN (Aa (Ab 0) Ah)) (eC (.int 0)) Fb)) (Ax (eC .non) []) Ar)
 (An (EN 1 (FZ Ah) [])
 (An (Bj (Ak 2) (AO (Ab 0)) [0]
 (An (BV (CT (Bw (t1 (eB Du (Aa (Ab 2) (Aa (eC (.ty "tuple")) Ah))) BN)) (t2 (eB AN (Aa (Ab 2) Ah)) (eC (.int 0)) Fb)) (Ax (eC .non) []) Ar)
 (An (EI 3)
 (An (B2 4 (eC (.str "")) [])
 (An (Bj (Ak 5) (AO (Ab 2)) [2]
 (An (BV (CT (Bw (t1 (eB Du (Aa (Ab 5) (Aa (eC (.ty "tuple")) Ah))) BN)) (t2 (eB AN (Aa (Ab 5) Ah)) (eC (.int 2)) Jr)) (Ax (eC .non) []) Ar)
 (An (BV (CT (Bw (t1 (eB Du (Aa (e2 (Ab 5) (eC (.int 0)) A4) (Aa (eC (.ty "str")) Ah))) BN)) (CT (Bw (t1 (Ao (Bl K cs) (Aa (e2 (Ab 5) (eC (.int 1)) A4) Ah)) BN)) (t2 (e2 (Ab 5) (eC (.int 0)) A4) (Ab 4) (Hb .LtE)))) (Ax (eC .non) []) Ar)
 (An (B2 4 (e2 (Ab 5) (eC (.int 0)) A4) [])
 (C7 3 (Ab 4) (e2 (Ab 5) (eC (.int 1)) A4) [])))))
 (BR 1 (Ab 3) [3]))))))
 (Ax (Ab 1) [1]))))
noncomputable def DX(K:PySem.W.Frag)(cs:Cs):List Dt→Out Dt:=D4 1 (AR 6 (EK K cs))
noncomputable def CC(K:PySem.W.Frag)(cs:Cs):FD.Env→SOut:=
 (Ax (eB Gp (Aa (eL (MB 0 (Ak 2) [2] AD (e2 (e2 (Ab 1) (Ab 2) Cc) (e2 (Ab 0) (Ab 2) Cc) AJ))) Ah)) [])
noncomputable def B6(K:PySem.W.Frag)(cs:Cs):List Dt→Out Dt:=D4 2 (AR 3 (CC K cs))
noncomputable def Em(K:PySem.W.Frag)(cs:Cs):FD.Env→SOut:=
 (Ax (eB JQ (Aa (eL (EG (Ak 2) [2] AD (Ao (B6 K cs) (Aa (Ab 2) (Aa (Ab 1) Ah))) (AO (Ab 0)) [0])) Ah)) [])
noncomputable def Au(K:PySem.W.Frag)(cs:Cs):List Dt→Out Dt:=D4 2 (AR 3 (Em K cs))
noncomputable def FG(K:PySem.W.Frag)(cs:Cs):FD.Env→SOut:=
 (Ax (e2 (eC (.int 1)) (eB Gp (Aa (eL (EG (Ak 1) [1] AD (eB Gp (Aa (eL (MB 1 (Ak 2) [2] AD (eB NZ (Aa (e2 (Ab 1) (Ab 2) Cc) Ah)))) Ah)) (AO (Ab 0)) [0])) Ah)) AJ) [])
noncomputable def Fv(K:PySem.W.Frag)(cs:Cs):List Dt→Out Dt:=D4 1 (AR 3 (FG K cs))
noncomputable def Ed(K:PySem.W.Frag)(cs:Cs):FD.Env→SOut:=
 (An (EI 3)
 (An (Bj (Ak 4) (AO (Ab 1)) [1]
 (C7 3 (Ab 4) (Ab 2) [2]))
 (An (Gh 0 (Ak 4)
 (C7 3 (Ab 4) (e2 (eC (.int 0)) (e2 (Ab 0) (Ab 4) Cc) (Je (· - ·))) []))
 (Ax (Ab 3) [3]))))
noncomputable def Ci(K:PySem.W.Frag)(cs:Cs):List Dt→Out Dt:=D4 3 (AR 5 (Ed K cs))
noncomputable def D9(K:PySem.W.Frag)(cs:Cs):FD.Env→SOut:=
 (An (B2 3 (Ao (Fv K cs) (Aa (e2 (Ab 0) (Ab 1) AJ) Ah)) [0,1])
 (An (Bj (Ak 4) (AO (e2 (Ab 0) (Ab 1) AJ)) [0,1]
 (An (B2 5 (Ao (Ci K cs) (Aa (Ab 4) (Aa (Ab 2) (Aa (Ab 3) Ah)))) [4,2,3])
 (BV (t2 (Ao (Au K cs) (Aa (Ab 0) (Aa (Ab 5) Ah))) (Ao (Au K cs) (Aa (Ab 1) (Aa (Ab 5) Ah))) Jr) (Ax (eC (.bl false)) []) Ar)))
 (Ax (eC (.bl true)) [])))
noncomputable def Eg(K:PySem.W.Frag)(cs:Cs):List Dt→Out Dt:=D4 3 (AR 6 (D9 K cs))
noncomputable def DH(K:PySem.W.Frag)(cs:Cs):FD.Env→SOut:=
 (An (EI 1)
 (An (Bj (Ak 2) (AO (eL (Qn (eL (lB GY (Aa (Ab 0) Ah)))))) [0]
 (C7 1 (Ab 2) (e2 (Ab 0) (Ab 2) Cc) [0,2]))
 (Ax (Ab 1) [1])))
noncomputable def CS(K:PySem.W.Frag)(cs:Cs):List Dt→Out Dt:=D4 1 (AR 3 (DH K cs))
noncomputable def Eo(K:PySem.W.Frag)(cs:Cs):FD.Env→SOut:=
 (An (Gh 0 (Ak 2)
 (BV (CT (t2 (Ab 2) (Ab 1) (CY Ma)) (t2 (e2 (Ab 0) (Ab 2) Cc) (e2 (Ab 1) (Ab 2) Cc) (cI fun i j=>decide (j < i)))) (Ax (eC (.bl false)) []) Ar))
 (Ax (eC (.bl true)) []))
noncomputable def AQ(K:PySem.W.Frag)(cs:Cs):List Dt→Out Dt:=D4 2 (AR 3 (Eo K cs))
noncomputable def ES(K:PySem.W.Frag)(cs:Cs):FD.Env→SOut:=
 (Ax (eB Jp (Aa (eL (lB De (Aa (eL (Cu (Ab 0))) Ah))) Ah)) [0])
noncomputable def DM(K:PySem.W.Frag)(cs:Cs):List Dt→Out Dt:=D4 1 (AR 1 (ES K cs))
noncomputable def DJ(K:PySem.W.Frag)(cs:Cs):FD.Env→SOut:=
 (An (B2 2 (Ao (DX K cs) (Aa (Ab 0) Ah)) [0])
 (An (BV (t2 (Ab 2) (eC .non) XW) (Ax (eC (.bl false)) []) Ar)
 (An (EN 3 (EG (Ak 4) [4] AD (Ao (DM K cs) (Aa (Ab 4) Ah)) (AO (Ab 1)) [1]) [1,4,4])
 (An (Bj (Ak 5) (BP (Aa (eB AN (Aa (Ab 0) Ah)) Ah)) []
 (An (BV (CT (t2 (e2 (Ab 0) (Ab 5) A4) (Ab 3) (CY Mm)) (CH (t2 (Ab 5) (eC (.int 0)) (cI fun i j=>decide (j < i))) (Bw (t2 (e2 (Ab 0) (e2 (Ab 5) (eC (.int 1)) (Je (· - ·))) A4) (e2 (Ab 0) (Ab 5) A4) (Hb .Lt))))) (Ax (eC (.bl false)) []) Ar)
 (Bj (Ak 6) (BP (Aa (eB AN (Aa (Ab 2) Ah)) Ah)) []
 (BV (CH (t2 (Ab 6) (Ab 5) Jr) (t1 (Ao (AQ K cs) (Aa (e2 (Ab 2) (Ab 6) A4) (Aa (e2 (Ab 2) (Ab 5) A4) Ah))) BN)) (Ax (eC (.bl false)) []) Ar))))
 (An (Bj (Ak 4) (AO (Ab 1)) [1]
 (BV (Bw (t1 (eB Mg (Aa (eL (EG (Ak 7) [7] AD (Ao (AQ K cs) (Aa (Ab 7) (Aa (Ab 4) Ah))) (AO (Ab 2)) [2])) Ah)) BN)) (Ax (eC (.bl false)) []) Ar))
 (Ax (eC (.bl true)) []))))))
noncomputable def DF(K:PySem.W.Frag)(cs:Cs):List Dt→Out Dt:=D4 2 (AR 8 (DJ K cs))
noncomputable def EV(K:PySem.W.Frag)(cs:Cs):FD.Env→SOut:=
 (An (EN 1 (EG (Ak 2) [2] AD (eB B4 (Aa (Ab 2) Ah)) (AO (Ab 0)) [0]) [0,2,2])
 (An (B2 3 (Ao (BS K cs) (Aa (Ab 1) Ah)) [1])
 (An (BV (t2 (eL (EG (Ak 2) [2] AD (eL (Cu (Ab 2))) (AO (Ab 1)) [1])) (eL (EG (Ak 2) [2] AD (eL (Cu (Ab 2))) (AO (Ab 0)) [0])) Jr) (Ax (eC .non) []) Ar)
 (An (BV (Bw (t1 (Ao (DF K cs) (Aa (Ab 3) (Aa (Ab 0) Ah))) BN)) (Ax (eC .non) []) Ar)
 (Ax (Ab 3) [3])))))
noncomputable def Cv(K:PySem.W.Frag)(cs:Cs):List Dt→Out Dt:=D4 1 (AR 4 (EV K cs))
noncomputable def ET(K:PySem.W.Frag)(cs:Cs):FD.Env→SOut:=
 (An (B2 4 (Ao (Cv K cs) (Aa (Ab 0) Ah)) [0])
 (An (BV (t2 (Ab 4) (eC .non) XW) (Ax (eC (.bl false)) []) Ar)
 (An (BV (t2 (Ao (Cv K cs) (Aa (e2 (eL (EG (Ak 5) [5] AD (Ao (CS K cs) (Aa (Ab 5) Ah)) (AO (eL (Qn (Ab 0)))) [0])) (eL (FZ (Aa (eB B4 (Aa (e2 (Ab 0) (eC (.int 0)) A4) Ah)) Ah))) AJ) Ah)) (Ab 4) Jr) (Ax (eC (.bl false)) []) Ar)
 (An (B2 6 (Ao (DX K cs) (Aa (Ab 4) Ah)) [4])
 (An (BV (t2 (Ao (Cv K cs) (Aa (Ab 6) Ah)) (Ab 4) Jr) (Ax (eC (.bl false)) []) Ar)
 (An (Bj (Ak 7) (BP (Aa (eC (.int 2)) Ah)) []
 (An (EI 8)
 (An (Bj (Ak 9) (AO (Ab 1)) [1]
 (B9 8 (Ab 9) (x2 (Am 12 (Ai K cs) (xP (Aa (Ab 2) (Aa (eC (.int 41)) Ah))) [2]) (xP (eC (.int 20))) (Je (· - ·))) []))
 (BV (t2 (Ao (Au K cs) (Aa (Ab 6) (Aa (Ab 8) Ah))) (Ao (Au K cs) (Aa (Ab 0) (Aa (Ab 8) Ah))) Jr) (Ax (eC (.bl false)) []) Ar))))
 (An (Az 10 (Am 12 (EF K cs) (xP (Aa (Ab 2) (Aa (Ab 0) (Aa (Ab 1) (Aa (Ab 3) Ah))))) [2,0,1,3]) [])
 (An (B2 11 (Ao (Cv K cs) (Aa (Ab 10) Ah)) [10])
 (An (BV (t2 (Ab 11) (eC .non) XW) (Ax (eC (.bl false)) []) Ar)
 (Ax (eT (t2 (eT (t2 (Ab 11) (Ab 4) Fb)) (Ao (Eg K cs) (Aa (Ab 0) (Aa (Ab 10) (Aa (Ab 1) Ah)))) Fb)) []))))))))))
noncomputable def DV(K:PySem.W.Frag)(cs:Cs):List Dt→List Cell→MO:=J9 4 (runM 12 (ET K cs))
noncomputable def Rb(K:PySem.W.Frag)(cs:Cs):FD.Env→SOut:=
 (An (Az 1 (Am 12 (AW K cs) (xP (Aa (Ab 0) (Aa (eC (.int 0)) Ah))) [0]) [])
 (An (Az 2 (xT (QH (Am 12 (Ai K cs) (xP (Aa (Ab 1) (Aa (eC (.int 8)) Ah))) [1]) (xP (eC (.int 7))) Fb)) [])
 (An (Az 3 (x2 (xP (eL (FZ (Aa (eC (.int 2)) (Aa (eC (.int 3)) (Aa (eC (.int 4)) (Aa (eC (.int 5)) (Aa (eC (.int 1)) Ah)))))))) (Am 12 (Ai K cs) (xP (Aa (Ab 1) (Aa (eC (.int 5)) Ah))) [1]) A4) [])
 (An (BV (t1 (Ab 2) BN) (Az 3 (x2 (xP (eC (.int 8))) (Am 12 (Ai K cs) (xP (Aa (Ab 1) (Aa (eC (.int 5)) Ah))) [1]) AJ) []) Ar)
 (An (Az 4 (Am 12 (Di K cs) (xP (Aa (Ab 1) (Aa (Ab 3) Ah))) [1,3]) [])
 (An (Az 5 (Am 12 (AW K cs) (xP (Aa (Ab 0) (Aa (eC (.int 1)) Ah))) [0]) [])
 (An (Az 6 (Am 12 (CQ K cs) (xP (Aa (Ab 5) Ah)) [5]) [])
 (An (Az 7 (x2 (xP (eL (FZ (Aa (eC (.int 1)) (Aa (eC (.int 2)) (Aa (eC (.int 4)) (Aa (eC (.int 5)) (Aa (eC (.int 3)) (Aa (eC (.int 6)) Ah))))))))) (Am 12 (Ai K cs) (xP (Aa (Ab 5) (Aa (eC (.int 6)) Ah))) [5]) A4) [])
 (An (Kf (QH (Am 12 (Ai K cs) (xP (Aa (Ab 5) (Aa (eC (.int 8)) Ah))) [5]) (xP (eC (.int 7))) Fb) (Az 7 (x2 (xP (eC (.int 10))) (Am 12 (Ai K cs) (xP (Aa (Ab 5) (Aa (eC (.int 21)) Ah))) [5]) AJ) []) Ar)
 (An (B2 8 (Ao (DQ K cs) (Aa (Ab 0) (Aa (Ab 4) (Aa (Ab 6) (Aa (Ab 7) Ah))))) [0,4,6,7])
 (An (Az 9 (Am 12 (AW K cs) (xP (Aa (Ab 0) (Aa (e2 (eC (.int 2)) (Ab 7) AJ) Ah))) [0,7]) [])
 (An (Kf (O3 (Zq (Am 12 (DV K cs) (xP (Aa (Ab 8) (Aa (Ab 4) (Aa (Ab 9) (Aa (Ab 6) Ah))))) [8,4,9,6]) BN)) (Ax (eC (.bl false)) []) Ar)
 (An (EN 10 (EG (Ak 11) [11] AD (eB B4 (Aa (Ab 11) Ah)) (AO (Ab 8)) [8]) [8,11,11])
 (An (CU 10 (Cy (Am 12 (Ai K cs) (xP (Aa (Ab 9) (Aa (e2 (eB AN (Aa (Ab 8) Ah)) (eC (.int 1)) AJ) Ah))) [9]) (xP (Aa (eC (.dic [] [])) Ah))) [])
 (Ax (FQ (Ao (AL K cs) (Aa (eL (FZ Ah)) Ah)) (FQ (Ao (AL K cs) (Aa (eL (FZ (Aa (eC (.dic [] [])) Ah))) Ah)) (Ao (AL K cs) (Aa (Ab 10) Ah)))) [10])))))))))))))))
section
variable {P:Program} {w:World} {K:PySem.W.Frag} {mg:Str→Option Value} {base:Heap} {cs:Cs}
theorem Hc{X:Cx}(T:Tx X.prog X.w X.K X.mg X.base cs):MkC X "EmptyForm" cs.c_EmptyForm BA El:=⟨T.m_EmptyForm,T.Bk,T.k_EmptyForm,T.e_EmptyForm,T.t_EmptyForm⟩
end
section
variable {P:Program} {w:World} {K:PySem.W.Frag} {mg:Str→Option Value} {base:Heap} {cs:Cs}
theorem Gb:FnScope ["_law_script","_law_k","_law_cell","#"] ["_law_script","_law_k"] (defScope B1):=⟨rfl,rfl,rfl,by decide +kernel,rfl,by decide +kernel,by decide +kernel⟩
theorem OE(T:Tx P w K mg base cs){a:Addr}{fd:FuncData}(F:FunD K "_law_box" "_law_box" (defArgs B1) (defBody B1) (defScope B1) [] [] a fd):FnOk P w K mg base (L2N.CX P w) 1 a fd ["_law_script","_law_k"] (LS K 2 (runM 3 (FW K cs))):=
 Ee F Gb rfl (by decide) (fun cdv A outer s H E hr=>
  (Al (CJ (CK Zl (Ae 1) (Cr (by rfl) T.n_len (Ac (Ae 0) Af))) (Ap (Cf 2 Gb.nd (EX (by rfl) T.n_int (Ac (B7 0 (Ae 1)) Af)))) (Ap (Cf 2 Gb.nd (JF (EX (by rfl) T.n_int (Ac (ER (Uh (by rfl) (by rfl) T.n_sum (Ac (QS (Ae 0) KZ (Lb Aj)) Af)) (BL Aj (ER Aj (Ae 1)))) Af)) Aj))))
  (Ap (Oj (S:=[3]) (YB (n:=3) (Ws (AU (Ac (Ae 2) (Ac (Ae 1) (Ac (Wg Z7 (Ae 2) (Qe Aj Aj)) Af))))))))))
theorem EM(T:Tx P w K mg base cs):ClM P w K mg base "_law_box" 1 (AW K cs):=by
 obtain ⟨a,fd,F,hm⟩:=T.F__law_box
 exact FT (OE T F) hm F.kp (BZ F (fun kV doc pm an cdv ct us hl=>match us,hl with | [_,_],_=>rfl))
theorem Dq:FnScope ["_law_box_here","_law_size","_law_pick","_law_first","_law_second","_law_third","#"] ["_law_box_here","_law_size"] (defScope BG):=⟨rfl,rfl,rfl,by decide +kernel,rfl,by decide +kernel,by decide +kernel⟩
theorem NX(T:Tx P w K mg base cs){a:Addr}{fd:FuncData}(F:FunD K "_law_take" "_law_take" (defArgs BG) (defBody BG) (defScope BG) [] [] a fd):FnOk P w K mg base (L2N.CX P w) 1 a fd ["_law_box_here","_law_size"] (LS K 2 (runM 6 (EJ K cs))):=
 Ee F Dq rfl (by decide) (fun cdv A outer s H E hr=>
  (Al (Pq (S:=[6]) 6 (D1 (BL (Ef 6 0 Aj) Aj)) (Ae 0) Aj)
  (Al (CJ (Ka (Ef 6 0 Aj)) (Al (Cf 2 Dq.nd (JF (EX (by rfl) T.n_int (Ac (Ef 6 0 Aj) Af)) (Ae 1)))
  (Al (Pq (S:=[6]) 6 (D1 (Kx (EX (by rfl) T.n_int (Ac (Ef 6 0 Aj) Af)) (Ae 1))) (Ae 0) Aj)
  (Ap (AF (Ae 2))))) Bu)
  (Al (Cf 3 Dq.nd (JF (EX (by rfl) T.n_int (Ac (ER (Ef 6 0 Aj) (BL Aj (ER Aj (Ef 6 0 Aj)))) Af)) Aj))
  (Al (Cf 4 Dq.nd (JF (EX (by rfl) T.n_int (Ac (BL (ER (Ae 3) (Ae 3)) (ER (Ae 3) (BL (Ef 6 0 Aj) Aj))) Af)) Aj))
  (Al (Cf 5 Dq.nd (JF (EX (by rfl) T.n_int (Ac (ER (Ae 4) (BL (Kx (Ae 4) Aj) Aj)) Af)) Aj))
  (Ap (AF (JF (EX (by rfl) T.n_int (Ac (BL (BL (Kx (Ae 5) Aj) (ER Aj (Ef 6 0 Aj))) (Kx (Ef 6 0 Aj) Aj)) Af)) (Ae 1))))))))))
theorem Aq(T:Tx P w K mg base cs):ClM P w K mg base "_law_take" 1 (Ai K cs):=by
 obtain ⟨a,fd,F,hm⟩:=T.F__law_take
 exact FT (NX T F) hm F.kp (BZ F (fun kV doc pm an cdv ct us hl=>match us,hl with | [_,_],_=>rfl))
theorem Hg:FnScope ["_law_names_here","_law_k"] ["_law_names_here"] (defScope Bf):=⟨rfl,rfl,rfl,by decide +kernel,rfl,by decide +kernel,by decide +kernel⟩
theorem Mh(T:Tx P w K mg base cs){a:Addr}{fd:FuncData}(F:FunD K "_law_fresh" "_law_fresh" (defArgs Bf) (defBody Bf) (defScope Bf) [] [] a fd):FnOk P w K mg base (L2N.CX P w) 1 a fd ["_law_names_here"] (Cw K 1 (AR 2 (Eb K cs))):=
 Bh F Hg (fun cdv A outer s H E hr=>
  (Al (Dd (passes_of (by rfl)) (by rfl) (Et (by rfl) T.n_range (BL (Cr (by rfl) T.n_len (Ac (Ae 0) Af)) Aj)) (Ay 1 Hg.nd)
  (Ap (CJ (CK Tw (BL Dj (RJ (by rfl) T.n_str (Ac (Ae 1) Af))) (Ae 0) (hm:=by with_unfolding_all rfl)) (Ap (AF (BL Dj (RJ (by rfl) T.n_str (Ac (Ae 1) Af))))) Bu)))
  (Ap (AF Dj))))
theorem Mz(T:Tx P w K mg base cs):ClR P w K mg base "_law_fresh" 1 (CF K cs):=by
 obtain ⟨a,fd,F,hm⟩:=T.F__law_fresh
 exact CG (Mh T F) hm F.kp (AG F (fun kV doc pm an cdv ct us hl=>match us,hl with | [_],_=>rfl))
theorem Ck:FnScope ["_law_box_here","_law_letters","_law_word_here","_law_size","_law_k","#"] ["_law_box_here"] (defScope BD):=⟨rfl,rfl,rfl,by decide +kernel,rfl,by decide +kernel,by decide +kernel⟩
theorem NT(T:Tx P w K mg base cs){a:Addr}{fd:FuncData}(F:FunD K "_law_word" "_law_word" (defArgs BD) (defBody BD) (defScope BD) [] [] a fd):FnOk P w K mg base (L2N.CX P w) 2 a fd ["_law_box_here"] (LS K 1 (runM 5 (EU K cs))):=
 Ee F Ck rfl (by decide) (fun cdv A outer s H E hr=>
  (Al (Cf 1 Ck.nd Dj)
  (Al (Po (S:=[5]) (Ro KR (As (n:=5) (Aq T) (L2N.takes_of (by rfl) (by rfl) (by rfl) (by rfl)) hr (by decide) (by rfl) (AU (Ac (Ae 0) (Ac Aj Af)))) (D1 Aj)) (Ap (Oj (S:=[5]) (O8 (D1 (CI (D0 (Ac Dj (Ac Dj (Ac Dj (Ac Dj (Ac Dj (Ac Dj (Ac Dj (Ac Dj Af))))))))))) (As (n:=5) (Aq T) (L2N.takes_of (by rfl) (by rfl) (by rfl) (by rfl)) hr (by decide) (by rfl) (AU (Ac (Ae 0) (Ac Aj Af))))))) Bu)
  (Al (BB (S:=[5]) 2 Ck.nd (ND 1 (As (n:=5) (Aq T) (L2N.takes_of (by rfl) (by rfl) (by rfl) (by rfl)) hr (by decide) (by rfl) (AU (Ac (Ae 0) (Ac Aj Af))))))
  (Al (BB (S:=[5]) 3 Ck.nd (As (n:=5) (Aq T) (L2N.takes_of (by rfl) (by rfl) (by rfl) (by rfl)) hr (by decide) (by rfl) (AU (Ac (Ae 0) (Ac Aj Af)))))
  (Al (Po (S:=[5]) (Ro (DW (Kh hr)) (As (n:=5) (Aq T) (L2N.takes_of (by rfl) (by rfl) (by rfl) (by rfl)) hr (by decide) (by rfl) (AU (Ac (Ae 0) (Ac Aj Af)))) (D1 Aj)) (Ap (Cf 3 Ck.nd Aj)) Bu)
  (Al (Dd (passes_of (by rfl)) (by rfl) (Et (by rfl) T.n_range (Ae 3)) (Ay 4 Ck.nd)
  (Ap (BB (S:=[5]) 2 Ck.nd (Hs (D1 (Ae 2)) (O8 (D1 (BL (Ae 1) Dj)) (As (n:=5) (Aq T) (L2N.takes_of (by rfl) (by rfl) (by rfl) (by rfl)) hr (by decide) (by rfl) (AU (Ac (Ae 0) (Ac Aj Af)))))))))
  (Ap (AF (Ae 2))))))))))
theorem Nh(T:Tx P w K mg base cs):ClM P w K mg base "_law_word" 2 (C0 K cs):=by
 obtain ⟨a,fd,F,hm⟩:=T.F__law_word
 exact FT (NT T F) hm F.kp (BZ F (fun kV doc pm an cdv ct us hl=>match us,hl with | [_],_=>rfl))
theorem CP:FnScope ["_law_box_here","_law_count","_law_names_here","_law_k","_law_word_here","#"] ["_law_box_here","_law_count"] (defScope Ba):=⟨rfl,rfl,rfl,by decide +kernel,rfl,by decide +kernel,by decide +kernel⟩
theorem Mj(T:Tx P w K mg base cs){a:Addr}{fd:FuncData}(F:FunD K "_law_names" "_law_names" (defArgs Ba) (defBody Ba) (defScope Ba) [] [] a fd):FnOk P w K mg base (L2N.CX P w) 3 a fd ["_law_box_here","_law_count"] (LS K 2 (runM 5 (Ej K cs))):=
 Ee F CP rfl (by decide) (fun cdv A outer s H E hr=>
  (Al (NH 2 CP.nd (D0 Af))
  (Al (Dd (passes_of (by rfl)) (by rfl) (Et (by rfl) T.n_range (Ae 1)) (Ay 3 CP.nd)
  (Al (BB (S:=[5]) 4 CP.nd (As (n:=5) (Nh T) (L2N.takes_of (by rfl) (by rfl) (by rfl) (by rfl)) hr (by decide) (by rfl) (AU (Ac (Ae 0) Af))))
  (Al (CJ (CK YL (Ae 4) (Ae 2) (hm:=by with_unfolding_all rfl)) (Ap (Cf 4 CP.nd (Aw (Mz T) (L2N.takes_of (by rfl) (by rfl) (by rfl) (by rfl)) hr (by decide) (by rfl) (Ac (Ae 2) Af)))) Bu)
  (Ap (HU 2 (Ae 4))))))
  (Ap (AF (Ae 2))))))
theorem MF(T:Tx P w K mg base cs):ClM P w K mg base "_law_names" 3 (Di K cs):=by
 obtain ⟨a,fd,F,hm⟩:=T.F__law_names
 exact FT (Mj T F) hm F.kp (BZ F (fun kV doc pm an cdv ct us hl=>match us,hl with | [_,_],_=>rfl))
theorem Gg:FnScope ["_law_box_here","_law_spreads","#"] ["_law_box_here"] (defScope A1):=⟨rfl,rfl,rfl,by decide +kernel,rfl,by decide +kernel,by decide +kernel⟩
theorem L4(T:Tx P w K mg base cs){a:Addr}{fd:FuncData}(F:FunD K "_law_spread" "_law_spread" (defArgs A1) (defBody A1) (defScope A1) [] [] a fd):FnOk P w K mg base (L2N.CX P w) 2 a fd ["_law_box_here"] (LS K 1 (runM 2 (DK K cs))):=
 Ee F Gg rfl (by decide) (fun cdv A outer s H E hr=>
  (Al (Cf 1 Gg.nd (CI (D0 (Ac (FC (Ac Aj (Ac Aj Af))) (Ac (FC (Ac Aj (Ac Aj Af))) (Ac (FC (Ac Aj (Ac (Ht Aj Aj) Af))) (Ac (FC (Ac Aj (Ac (Ht Aj Aj) Af))) (Ac (FC (Ac Aj (Ac (Ht Aj Aj) Af))) (Ac (FC (Ac Aj (Ac (Ht Aj Aj) Af))) (Ac (FC (Ac Aj (Ac (Qe Aj Aj) Af))) Af))))))))))
  (Ap (Oj (S:=[2]) (O8 (D1 (BL (Ae 1) (CI (D0 (Ac (FC (Ac Aj (Ac (Ht Aj (Qe Aj Aj)) Af))) Af))))) (As (n:=2) (Aq T) (L2N.takes_of (by rfl) (by rfl) (by rfl) (by rfl)) hr (by decide) (by rfl) (AU (Ac (Ae 0) (Ac Aj Af)))))))))
theorem LX(T:Tx P w K mg base cs):ClM P w K mg base "_law_spread" 2 (CQ K cs):=by
 obtain ⟨a,fd,F,hm⟩:=T.F__law_spread
 exact FT (L4 T F) hm F.kp (BZ F (fun kV doc pm an cdv ct us hl=>match us,hl with | [_],_=>rfl))
theorem EL:FnScope ["_law_box_here","_law_names_here","_law_spread_here","_law_turn","_law_row_here","_law_name","#"] ["_law_box_here","_law_names_here","_law_spread_here"] (defScope B0):=⟨rfl,rfl,rfl,by decide +kernel,rfl,by decide +kernel,by decide +kernel⟩
theorem Ph(T:Tx P w K mg base cs){a:Addr}{fd:FuncData}(F:FunD K "_law_row" "_law_row" (defArgs B0) (defBody B0) (defScope B0) [] [] a fd):FnOk P w K mg base (L2N.CX P w) 2 a fd ["_law_box_here","_law_names_here","_law_spread_here"] (LS K 3 (runM 6 (FP K cs))):=
 Ee F EL rfl (by decide) (fun cdv A outer s H E hr=>
  (Al (BB (S:=[6]) 3 EL.nd (As (n:=6) (Aq T) (L2N.takes_of (by rfl) (by rfl) (by rfl) (by rfl)) hr (by decide) (by rfl) (AU (Ac (Ae 0) (Ac (Cr (by rfl) T.n_len (Ac (Ae 1) Af)) Af)))))
  (Al (L1 4 EL.nd)
  (Al (Dd (passes_of (by rfl)) (by rfl) (AS (BL (QS (Ae 1) (Lb (Ae 3)) KZ) (QS (Ae 1) KZ (Lb (Ae 3))))) (Ay 5 EL.nd)
  (Ap (Po (S:=[6]) (Ro (DW (Kh hr)) (As (n:=6) (Aq T) (L2N.takes_of (by rfl) (by rfl) (by rfl) (by rfl)) hr (by decide) (by rfl) (AU (Ac (Ae 0) (Ac Aj Af)))) (D1 Aj)) (Ap (Ks (S:=[6]) hr 4 (Hs (As (n:=6) (Aq T) (L2N.takes_of (by rfl) (by rfl) (by rfl) (by rfl)) hr (by decide) (by rfl) (AU (Ac (Ae 0) (Ac (B7 2 Aj) Af)))) (D1 (B7 2 Aj))) (Ae 5))) Bu)))
  (Al (CJ (CK (DW (Kh hr)) (Us 4 (by rfl) T.n_len) Aj) (Ap (Ks (S:=[6]) hr 4 (Hs (As (n:=6) (Aq T) (L2N.takes_of (by rfl) (by rfl) (by rfl) (by rfl)) hr (by decide) (by rfl) (AU (Ac (Ae 0) (Ac (B7 2 Aj) Af)))) (D1 (B7 2 Aj))) (B7 1 (Ae 3)))) Bu)
  (Ap (AF (Ae 4))))))))
theorem JU(T:Tx P w K mg base cs):ClM P w K mg base "_law_row" 2 (Cj K cs):=by
 obtain ⟨a,fd,F,hm⟩:=T.F__law_row
 exact FT (Ph T F) hm F.kp (BZ F (fun kV doc pm an cdv ct us hl=>match us,hl with | [_,_,_],_=>rfl))
theorem E2:FnScope ["_law_box_here","_law_older","_law_row_here","_law_found","_law_name","#"] ["_law_box_here","_law_older","_law_row_here"] (defScope Bb):=⟨rfl,rfl,rfl,by decide +kernel,rfl,by decide +kernel,by decide +kernel⟩
theorem Me(T:Tx P w K mg base cs){a:Addr}{fd:FuncData}(F:FunD K "_law_above" "_law_above" (defArgs Bb) (defBody Bb) (defScope Bb) [] [] a fd):FnOk P w K mg base (L2N.CX P w) 2 a fd ["_law_box_here","_law_older","_law_row_here"] (LS K 3 (runM 5 (Ek K cs))):=
 Ee F E2 rfl (by decide) (fun cdv A outer s H E hr=>
  (Al (UY 3 (by rfl) T.n_dict (Ac (Ae 2) Af) E2.nd)
  (Al (Qr 1 (passes_of (by rfl)) (by rfl) (Ay 4 E2.nd)
  (Ap (Ks (S:=[5]) hr 3 (Hs (D1 (FY hr (Ae 1) (Ae 4))) (As (n:=5) (Aq T) (L2N.takes_of (by rfl) (by rfl) (by rfl) (by rfl)) hr (by decide) (by rfl) (AU (Ac (Ae 0) (Ac Aj Af))))) (Ae 4))))
  (Ap (AF (Ae 3))))))
theorem MC(T:Tx P w K mg base cs):ClM P w K mg base "_law_above" 2 (Cn K cs):=by
 obtain ⟨a,fd,F,hm⟩:=T.F__law_above
 exact FT (Me T F) hm F.kp (BZ F (fun kV doc pm an cdv ct us hl=>match us,hl with | [_,_,_],_=>rfl))
theorem BQ:FnScope ["_law_script","_law_names_here","_law_spread_here","_law_count","_law_rows_here","_law_k","_law_box_here","_law_way","_law_row_here","#"] ["_law_script","_law_names_here","_law_spread_here","_law_count"] (defScope BC):=⟨rfl,rfl,rfl,by decide +kernel,rfl,by decide +kernel,by decide +kernel⟩
theorem Nq(T:Tx P w K mg base cs){a:Addr}{fd:FuncData}(F:FunD K "_law_rows" "_law_rows" (defArgs BC) (defBody BC) (defScope BC) [] [] a fd):FnOk P w K mg base (L2N.CX P w) 3 a fd ["_law_script","_law_names_here","_law_spread_here","_law_count"] (Cw K 4 (Ml 9 (ED K cs))):=
 RK F BQ rfl (by decide) (fun cdv A outer s H E hr=>
  (Al (NH 4 BQ.nd (D0 Af))
  (Al (Dd (passes_of (by rfl)) (by rfl) (Et (by rfl) T.n_range (Ae 3)) (Ay 5 BQ.nd)
  (Al (BB (S:=[9]) 6 BQ.nd (As (n:=9) (EM T) (L2N.takes_of (by rfl) (by rfl) (by rfl) (by rfl)) hr (by decide) (by rfl) (AU (Ac (Ae 0) (Ac (BL Aj (Ae 5)) Af)))))
  (Al (BB (S:=[9]) 7 BQ.nd (As (n:=9) (Aq T) (L2N.takes_of (by rfl) (by rfl) (by rfl) (by rfl)) hr (by decide) (by rfl) (AU (Ac (Ae 6) (Ac Aj Af)))))
  (Al (BB (S:=[9]) 8 BQ.nd (As (n:=9) (JU T) (L2N.takes_of (by rfl) (by rfl) (by rfl) (by rfl)) hr (by decide) (by rfl) (AU (Ac (Ae 6) (Ac (Ae 1) (Ac (Ae 2) Af))))))
  (Al (CJ (TK (IJ (CK KR (Cr (by rfl) T.n_len (Ac (Ae 4) Af)) Aj) (GF (CK (DW (Kh hr)) (Ae 7) Aj)))) (Ap (BB (S:=[9]) 8 BQ.nd (Vq (by rfl) T.n_dict (E6 (ND 4 (As (n:=9) (Aq T) (L2N.takes_of (by rfl) (by rfl) (by rfl) (by rfl)) hr (by decide) (by rfl) (AU (Ac (Ae 6) (Ac (Cr (by rfl) T.n_len (Ac (Ae 4) Af)) Af))))) (AU Af))))) Bu)
  (Al (CJ (TK (IJ (CK KR (Cr (by rfl) T.n_len (Ac (Ae 4) Af)) Aj) (GF (CK (DW (Kh hr)) (Ae 7) Aj)))) (Ap (BB (S:=[9]) 8 BQ.nd (As (n:=9) (MC T) (L2N.takes_of (by rfl) (by rfl) (by rfl) (by rfl)) hr (by decide) (by rfl) (E6 (D1 (Ae 6)) (E6 (ND 4 (As (n:=9) (Aq T) (L2N.takes_of (by rfl) (by rfl) (by rfl) (by rfl)) hr (by decide) (by rfl) (AU (Ac (Ae 6) (Ac (Cr (by rfl) T.n_len (Ac (Ae 4) Af)) Af))))) (AU (Ac (Ae 8) Af))))))) Bu)
  (Ap (HU 4 (Ae 8)))))))))
  (Ap (AF (Ae 4))))))
theorem Oy(T:Tx P w K mg base cs):ClR P w K mg base "_law_rows" 3 (DQ K cs):=by
 obtain ⟨a,fd,F,hm⟩:=T.F__law_rows
 exact CG (Nq T F) hm F.kp (BZ F (fun kV doc pm an cdv ct us hl=>match us,hl with | [_,_,_,_],_=>rfl))
theorem Sk:FnScope ["entries"] ["entries"] (defScope CM):=⟨rfl,rfl,rfl,by decide +kernel,rfl,by decide +kernel,by decide +kernel⟩
theorem SR(T:Tx P w K mg base cs){a:Addr}{fd:FuncData}(F:FunD K "row_of" "row_of" (defArgs CM) (defBody CM) (defScope CM) [] [] a fd):FnOk P w K mg base (L2N.CX P w) 1 a fd ["entries"] (Cw K 1 (AR 1 (Ia K cs))):=
 Bh F Sk (fun cdv A outer s H E hr=>
  (Ap (AF (Pp (by rfl) T.n_tuple (Ac (CI (S7 hr (by rfl) (Ae 0) (by rfl) T.n_sorted)) Af)))))
theorem S9(T:Tx P w K mg base cs):ClR P w K mg base "row_of" 1 (Gw K cs):=by
 obtain ⟨a,fd,F,hm⟩:=T.F_row_of
 exact CG (SR T F) hm F.kp (AG F (fun kV doc pm an cdv ct us hl=>match us,hl with | [_],_=>rfl))
theorem Jz:FnScope ["row","limits","name","number"] ["row","limits"] (defScope CL):=⟨rfl,rfl,rfl,by decide +kernel,rfl,by decide +kernel,by decide +kernel⟩
theorem Sh(T:Tx P w K mg base cs){a:Addr}{fd:FuncData}(F:FunD K "within" "within" (defArgs CL) (defBody CL) (defScope CL) [] [] a fd):FnOk P w K mg base (L2N.CX P w) 1 a fd ["row","limits"] (Cw K 2 (AR 4 (HP K cs))):=
 Bh F Jz (fun cdv A outer s H E hr=>
  (Al (Dd (passes_of (by rfl)) (by rfl) (AS (Ae 0)) (T3 (by rfl) (FI (Ay 2 Jz.nd) (FI (Ay 3 Jz.nd) QX)) (Dy (Dy Ld)))
  (Ap (CJ (TK (GR (MM hr (Ae 2) (Ae 1)) (FH (CK KR (Ae 3) (FY hr (Ae 1) (Ae 2)))))) (Ap (AF CZ)) Bu)))
  (Ap (AF CZ))))
theorem SD(T:Tx P w K mg base cs):ClR P w K mg base "within" 1 (Ex K cs):=by
 obtain ⟨a,fd,F,hm⟩:=T.F_within
 exact CG (Sh T F) hm F.kp (AG F (fun kV doc pm an cdv ct us hl=>match us,hl with | [_,_],_=>rfl))
theorem FF:FnScope ["rows","row","limits","other"] ["rows","row"] (defScope BE):=⟨rfl,rfl,rfl,by decide +kernel,rfl,by decide +kernel,by decide +kernel⟩
theorem NY(T:Tx P w K mg base cs){a:Addr}{fd:FuncData}(F:FunD K "has_below" "has_below" (defArgs BE) (defBody BE) (defScope BE) [] [] a fd):FnOk P w K mg base (L2N.CX P w) 2 a fd ["rows","row"] (Cw K 2 (AR 4 (EO K cs))):=
 Bh F FF (fun cdv A outer s H E hr=>
  (Al (Cf 2 FF.nd (U3 (by rfl) (by rfl) T.n_dict (Ac (Ae 1) Af)))
  (Al (Dd (passes_of (by rfl)) (by rfl) (AS (Ae 0)) (Ay 3 FF.nd)
  (Ap (CJ (Ka (Aw (SD T) (L2N.takes_of (by rfl) (by rfl) (by rfl) (by rfl)) hr (by decide) (by rfl) (Ac (Ae 3) (Ac (Ae 2) Af)))) (Ap (AF CZ)) Bu)))
  (Ap (AF CZ)))))
theorem NQ(T:Tx P w K mg base cs):ClR P w K mg base "has_below" 2 (C9 K cs):=by
 obtain ⟨a,fd,F,hm⟩:=T.F_has_below
 exact CG (NY T F) hm F.kp (AG F (fun kV doc pm an cdv ct us hl=>match us,hl with | [_,_],_=>rfl))
theorem Cb:FnScope ["rows","ranked","row","name","number","kept","size","total"] ["rows"] (defScope CB):=⟨rfl,rfl,rfl,by decide +kernel,rfl,by decide +kernel,by decide +kernel⟩
theorem SE(T:Tx P w K mg base cs){a:Addr}{fd:FuncData}(F:FunD K "lowest" "lowest" (defArgs CB) (defBody CB) (defScope CB) [] [] a fd):FnOk P w K mg base (L2N.CX P w) 3 a fd ["rows"] (Cw K 1 (AR 8 (IF K cs))):=
 Bh F Cb (fun cdv A outer s H E hr=>
  (Al (Cf 1 Cb.nd (CI (LZ hr (by rfl) T.n_sorted (Ac (CI (Ie [("row",2)] (by rfl) Cb.nd (AS (Ae 0)) (fun s2 H2 C2 cl2 fp2=>(Ay 2 Cb.nd)) (fun s2 H2 C2 cl2 fp2=>Ct) (fun s2 H2 C2 cl2 fp2=>(FC (Ac (Cr (by rfl) T.n_len (Ac (Ae 2) Af)) (Ac (Uh (by rfl) (by rfl) T.n_sum (Ac (CI (Ie [("name",3),("number",4)] (by rfl) Cb.nd (AS (Ae 2)) (fun s2 H2 C2 cl2 fp2=>(T3 (by rfl) (FI (Ay 3 Cb.nd) (FI (Ay 4 Cb.nd) QX)) (Dy (Dy Ld)))) (fun s2 H2 C2 cl2 fp2=>Ct) (fun s2 H2 C2 cl2 fp2=>(Ae 4)) (ok:=by exact LG ["rows","ranked","row","name","number","kept","size","total"] rfl (by decide +kernel)))) Af)) (Ac (Ae 2) Af))))) (ok:=by exact blkOk_by (N:=["rows","ranked","row","name","number","kept","size","total"]) (sc:=defScope CB) (by decide +kernel)))) Af))))
  (Al (NH 5 Cb.nd (D0 Af))
  (Al (Dd (passes_of (by rfl)) (by rfl) (AS (Ae 1)) (T3 (by rfl) (FI (Ay 6 Cb.nd) (FI (Ay 7 Cb.nd) (FI (Ay 2 Cb.nd) QX))) (Dy (Dy (Dy Ld))))
  (Ap (CJ (Ea (Ka (Aw (NQ T) (L2N.takes_of (by rfl) (by rfl) (by rfl) (by rfl)) hr (by decide) (by rfl) (Ac (Ae 5) (Ac (Ae 2) Af))))) (Ap (HU 5 (Ae 2))) Bu)))
  (Ap (AF (VN (by rfl) T.n_tuple (Ac (CI (LZ hr (by rfl) T.n_sorted (Ac (Ae 5) Af))) Af))))))))
theorem SQ(T:Tx P w K mg base cs):ClR P w K mg base "lowest" 3 (HV K cs):=by
 obtain ⟨a,fd,F,hm⟩:=T.F_lowest
 exact CG (SE T F) hm F.kp (AG F (fun kV doc pm an cdv ct us hl=>match us,hl with | [_],_=>rfl))
theorem Jx:FnScope ["rows","row"] ["rows"] (defScope Cz):=⟨rfl,rfl,rfl,by decide +kernel,rfl,by decide +kernel,by decide +kernel⟩
theorem Tv(T:Tx P w K mg base cs){a:Addr}{fd:FuncData}(F:FunD K "normal" "normal" (defArgs Cz) (defBody Cz) (defScope Cz) [] [] a fd):FnOk P w K mg base (L2N.CX P w) 4 a fd ["rows"] (Cw K 1 (AR 2 (HG K cs))):=
 Bh F Jx (fun cdv A outer s H E hr=>
  (Ap (AF (Aw (SQ T) (L2N.takes_of (by rfl) (by rfl) (by rfl) (by rfl)) hr (by decide) (by rfl) (Ac (CI (Ie [("row",1)] (by rfl) Jx.nd (AS (Ae 0)) (fun s2 H2 C2 cl2 fp2=>(Ay 1 Jx.nd)) (fun s2 H2 C2 cl2 fp2=>Ct) (fun s2 H2 C2 cl2 fp2=>(Aw (S9 T) FD.takes0 hr (by decide) (by rfl) (Ac (Ae 1) Af))) (ok:=by exact blkOk_by (N:=["rows","row"]) (sc:=defScope Cz) (by decide +kernel)))) Af)))))
theorem SV(T:Tx P w K mg base cs):ClR P w K mg base "normal" 4 (HI K cs):=by
 obtain ⟨a,fd,F,hm⟩:=T.F_normal
 exact CG (Tv T F) hm F.kp (AG F (fun kV doc pm an cdv ct us hl=>match us,hl with | [_],_=>rfl))
theorem Io:FnScope ["rows","row"] ["rows"] (defScope BI):=⟨rfl,rfl,rfl,by decide +kernel,rfl,by decide +kernel,by decide +kernel⟩
theorem N7(T:Tx P w K mg base cs){a:Addr}{fd:FuncData}(F:FunD K "need_rows" "need_rows" (defArgs BI) (defBody BI) (defScope BI) [] [] a fd):FnOk P w K mg base (L2N.CX P w) 3 a fd ["rows"] (Cw K 1 (AR 2 (EH K cs))):=
 Bh F Io (fun cdv A outer s H E hr=>
  (Al (CJ (CK (DW (Kh hr)) (Cr (by rfl) T.n_len (Ac (Ae 0) Af)) Aj) (Ap (Pa (by rfl) (Hc T) (Hk K) (L2N.takes_of (by rfl) (by rfl) (by rfl) (by rfl)) hr (by decide) (by rfl))) Bu)
  (Ap (Dd (passes_of (by rfl)) (by rfl) (AS (Ae 0)) (Ay 1 Io.nd)
  (Ap (CJ (CK (DW (Kh hr)) (V4 (by rfl) T.n_len (Ac (Ae 1) Af)) Aj) (Ap (Pa (by rfl) (Hc T) (Hk K) (L2N.takes_of (by rfl) (by rfl) (by rfl) (by rfl)) hr (by decide) (by rfl))) Bu))))))
theorem Oo(T:Tx P w K mg base cs):ClR P w K mg base "need_rows" 3 (DU K cs):=by
 obtain ⟨a,fd,F,hm⟩:=T.F_need_rows
 exact CG (N7 T F) hm F.kp (AG F (fun kV doc pm an cdv ct us hl=>match us,hl with | [_],_=>rfl))
theorem Mo:FnScope ["rows"] ["rows"] (defScope Bg):=⟨rfl,rfl,rfl,by decide +kernel,rfl,by decide +kernel,by decide +kernel⟩
theorem Mn(T:Tx P w K mg base cs){a:Addr}{fd:FuncData}(F:FunD K "least_rows" "least_rows" (defArgs Bg) (defBody Bg) (defScope Bg) [] [] a fd):FnOk P w K mg base (L2N.CX P w) 5 a fd ["rows"] (Cw K 1 (AR 1 (Eh K cs))):=
 Bh F Mo (fun cdv A outer s H E hr=>
  (Al (Ub (Aw (Oo T) (L2N.takes_of (by rfl) (by rfl) (by rfl) (by rfl)) hr (by decide) (by rfl) (Ac (Ae 0) Af)))
  (Ap (AF (Aw (SV T) (L2N.takes_of (by rfl) (by rfl) (by rfl) (by rfl)) hr (by decide) (by rfl) (Ac (Ae 0) Af))))))
theorem Hj(T:Tx P w K mg base cs):ClR P w K mg base "least_rows" 5 (BS K cs):=by
 obtain ⟨a,fd,F,hm⟩:=T.F_least_rows
 exact CG (Mn T F) hm F.kp (AG F (fun kV doc pm an cdv ct us hl=>match us,hl with | [_],_=>rfl))
theorem A5:FnScope ["_law_rows_here","_law_kept","_law_row_here","e","_law_fine"] ["_law_rows_here"] (defScope AE):=⟨rfl,rfl,rfl,by decide +kernel,rfl,by decide +kernel,by decide +kernel⟩
theorem Kg(T:Tx P w K mg base cs){a:Addr}{fd:FuncData}(F:FunD K "_law_refuses" "_law_refuses" (defArgs AE) (defBody AE) (defScope AE) [] [] a fd):FnOk P w K mg base (L2N.CX P w) 6 a fd ["_law_rows_here"] (Cw K 1 (AR 5 (Dh K cs))):=
 Bh F A5 (fun cdv A outer s H E hr=>
  (Al (Km 1 [("_law_row_here",2)] (by rfl) A5.nd (AS (Ae 0)) (fun s2 H2 C2 cl2 fp2=>(Ay 2 A5.nd)) (fun s2 H2 C2 cl2 fp2=>Ct) (fun s2 H2 C2 cl2 fp2=>(CI (HF (by rfl) (Ae 2) (by rfl) T.n_list))) (ok:=by exact blkOk_by (N:=["_law_rows_here","_law_kept","_law_row_here","e","_law_fine"]) (sc:=defScope AE) (by decide +kernel)))
  (Al (UE 3 cs.all (by rfl) (by rfl) A5.nd ⟨by rfl,by decide,.inl T.Bk⟩ (fun W3 pn3 xe3 tk3 hp3=>(Ap (Ub (Aw (Hj T) tk3 hr (by decide) (by rfl) (Ac (Ae 0) Af)))))
  (fun a oe C d pn hD hz hf=>(Al (Cf 4 A5.nd (FL (JG hz hf (T.xc C hD) (by rfl) T.n_isinstance (Ac (Ae 3) (Ac (HW (v:=.ref cs.c_Refused) (d:=.cls cs.c_Refused) (by rfl) ⟨_,T.g_Refused,rfl⟩ (fun _ _ _=>rfl)) Af))) (FL (JG hz hf (T.xc C hD) (by rfl) T.n_isinstance (Ac (Ae 3) (Ac (HW (v:=.ref cs.c_HouseError) (d:=.cls cs.c_HouseError) (by rfl) ⟨_,T.g_HouseError,rfl⟩ (fun _ _ _=>rfl)) Af))) (Kz (JG hz hf (T.xc C hD) (by rfl) T.n_isinstance (Ac (Ae 3) (Ac (FR (by rfl) T.n_ValueError Mx) Af)))))))
  (Al (Cf 4 A5.nd (FL (Ae 4) (FL (NO (JG hz hf (T.xc C hD) (by rfl) T.n_isinstance (Ac (Ae 3) (Ac (HW (v:=.ref cs.c_Unfit) (d:=.cls cs.c_Unfit) (by rfl) ⟨_,T.g_Unfit,rfl⟩ (fun _ _ _=>rfl)) Af)))) (FL (NO (JG hz hf (T.xc C hD) (by rfl) T.n_isinstance (Ac (Ae 3) (Ac (HW (v:=.ref cs.c_NoAnswer) (d:=.cls cs.c_NoAnswer) (by rfl) ⟨_,T.g_NoAnswer,rfl⟩ (fun _ _ _=>rfl)) Af)))) (Kz (NO (JG hz hf (T.xc C hD) (by rfl) T.n_isinstance (Ac (Ae 3) (Ac (HW (v:=.ref cs.c_NoName) (d:=.cls cs.c_NoName) (by rfl) ⟨_,T.g_NoName,rfl⟩ (fun _ _ _=>rfl)) Af)))))))))
  (Ap (AF (FL (Ae 4) (Kz (Wg (DW (us64 hr)) (CI (Ye [("_law_row_here",2)] (HotL.Qi hz hf) A5.nd (Ae 0) (fun s2 H2 C2 cl2 fp2=>(Ay 2 A5.nd)) (fun s2 H2 C2 cl2 fp2=>Ct) (fun s2 H2 C2 cl2 fp2 hh=>(CI (Sv hh (Ae 2) (by rfl) T.n_list))) (ok:=by exact blkOk_by (N:=["_law_rows_here","_law_kept","_law_row_here","e","_law_fine"]) (sc:=defScope AE) (by decide +kernel)))) (Ae 1))))))))))
  (Ap (AF CZ)))))
theorem D2(T:Tx P w K mg base cs):ClR P w K mg base "_law_refuses" 6 (AL K cs):=by
 obtain ⟨a,fd,F,hm⟩:=T.F__law_refuses
 exact CG (Kg T F) hm F.kp (AG F (fun kV doc pm an cdv ct us hl=>match us,hl with | [_],_=>rfl))
theorem BU:FnScope ["_law_box_here","_law_rows_here","_law_names_here","_law_spread_here","_law_others","_law_row_here","_law_place","_law_way","_law_name","#"] ["_law_box_here","_law_rows_here","_law_names_here","_law_spread_here"] (defScope Bo):=⟨rfl,rfl,rfl,by decide +kernel,rfl,by decide +kernel,by decide +kernel⟩
theorem Nw(T:Tx P w K mg base cs){a:Addr}{fd:FuncData}(F:FunD K "_law_bent" "_law_bent" (defArgs Bo) (defBody Bo) (defScope Bo) [] [] a fd):FnOk P w K mg base (L2N.CX P w) 3 a fd ["_law_box_here","_law_rows_here","_law_names_here","_law_spread_here"] (LS K 4 (runM 9 (EE K cs))):=
 Ee F BU rfl (by decide) (fun cdv A outer s H E hr=>
  (Al (Vf (S:=[9]) 4 [("_law_row_here",5)] (by rfl) BU.nd (Z8 (AS (Ae 1))) (fun s2 H2 C2 cl2 fp2=>(Ay 5 BU.nd)) (fun s2 H2 C2 cl2 fp2=>(Wt)) (fun s2 H2 C2 cl2 fp2=>(SI (n:=9) (by rfl) T.n_dict (Ac (Ae 5) Af))) (ok:=by exact blkOk_by (N:=["_law_box_here","_law_rows_here","_law_names_here","_law_spread_here","_law_others","_law_row_here","_law_place","_law_way","_law_name","#"]) (sc:=defScope Bo) (by decide +kernel)))
  (Al (BB (S:=[9]) 6 BU.nd (As (n:=9) (Aq T) (L2N.takes_of (by rfl) (by rfl) (by rfl) (by rfl)) hr (by decide) (by rfl) (AU (Ac (Ae 0) (Ac (Cr (by rfl) T.n_len (Ac (Ae 1) Af)) Af)))))
  (Al (BB (S:=[9]) 7 BU.nd (As (n:=9) (Aq T) (L2N.takes_of (by rfl) (by rfl) (by rfl) (by rfl)) hr (by decide) (by rfl) (AU (Ac (Ae 0) (Ac Aj Af)))))
  (Al (Cf 5 BU.nd (B7 4 (Ae 6)))
  (Al (BB (S:=[9]) 8 BU.nd (ND 2 (As (n:=9) (Aq T) (L2N.takes_of (by rfl) (by rfl) (by rfl) (by rfl)) hr (by decide) (by rfl) (AU (Ac (Ae 0) (Ac (Cr (by rfl) T.n_len (Ac (Ae 2) Af)) Af))))))
  (Al (CJ (TK (IJ (CK (DW (Kh hr)) (Ae 7) Aj) (GF (CK KR (Cr (by rfl) T.n_len (Ac (Ae 1) Af)) Aj)))) (Ap (WZ (S:=[9,4]) (WM 4 (D1 (Ae 6))))) (Ap (CJ (CK (DW (Kh hr)) (Ae 7) Aj) (Ap (MQ (S:=[9]) 4 (E6 (D1 (Ae 6)) (E6 (As (n:=9) (JU T) (L2N.takes_of (by rfl) (by rfl) (by rfl) (by rfl)) hr (by decide) (by rfl) (AU (Ac (Ae 0) (Ac (Ae 2) (Ac (Ae 3) Af))))) (AU Af))))) (Ap (CJ (CK (DW (Kh hr)) (Ae 7) Aj) (Ap (RB (S:=[9]) 9 hr (Hs (As (n:=9) (Aq T) (L2N.takes_of (by rfl) (by rfl) (by rfl) (by rfl)) hr (by decide) (by rfl) (AU (Ac (Ae 0) (Ac (B7 3 Aj) Af)))) (D1 (B7 3 Aj))) (Ae 5) (Ae 8))) (Al (Cf 8 BU.nd (ZS (CI (Tc 9 5 (by rfl) (by rfl) T.n_list)) Aj))
  (Ap (RB (S:=[9]) 9 hr (Ud (D1 (BL (Wj 9 5 hr (Ae 8)) Aj)) (YQ (D1 Aj) (As (n:=9) (Aq T) (L2N.takes_of (by rfl) (by rfl) (by rfl) (by rfl)) hr (by decide) (by rfl) (AU (Ac (Ae 0) (Ac Aj Af)))))) (Ae 5) (Ae 8)))))))))
  (Ap (Oj (S:=[9,4]) (Wo (S:=[9,4]) 9 4))))))))))
theorem NK(T:Tx P w K mg base cs):ClM P w K mg base "_law_bent" 3 (EF K cs):=by
 obtain ⟨a,fd,F,hm⟩:=T.F__law_bent
 exact FT (Nw T F) hm F.kp (BZ F (fun kV doc pm an cdv ct us hl=>match us,hl with | [_,_,_,_],_=>rfl))
theorem Kk:FnScope ["_law_told_here"] ["_law_told_here"] (defScope AV):=⟨rfl,rfl,rfl,by decide +kernel,rfl,by decide +kernel,by decide +kernel⟩
theorem Kj(T:Tx P w K mg base cs){a:Addr}{fd:FuncData}(F:FunD K "_law_integer" "_law_integer" (defArgs AV) (defBody AV) (defScope AV) [] [] a fd):FnOk P w K mg base (L2N.CX P w) 1 a fd ["_law_told_here"] (Cw K 1 (AR 1 (Dl K cs))):=
 Bh F Kk (fun cdv A outer s H E hr=>
  (Ap (AF (FL (JC (by rfl) T.n_isinstance (Ac (Ae 0) (Ac (FR (by rfl) T.n_int Vz) Af))) (Kz (NO (JC (by rfl) T.n_isinstance (Ac (Ae 0) (Ac (FR (by rfl) T.n_bool Xj) Af)))))))))
theorem Ke(T:Tx P w K mg base cs):ClR P w K mg base "_law_integer" 1 (Bl K cs):=by
 obtain ⟨a,fd,F,hm⟩:=T.F__law_integer
 exact CG (Kj T F) hm F.kp (AG F (fun kV doc pm an cdv ct us hl=>match us,hl with | [_],_=>rfl))
theorem Cm:FnScope ["_law_told_here","_law_rows_here","_law_row_here","_law_found","_law_last","_law_pair"] ["_law_told_here"] (defScope BH):=⟨rfl,rfl,rfl,by decide +kernel,rfl,by decide +kernel,by decide +kernel⟩
theorem Ou(T:Tx P w K mg base cs){a:Addr}{fd:FuncData}(F:FunD K "_law_form" "_law_form" (defArgs BH) (defBody BH) (defScope BH) [] [] a fd):FnOk P w K mg base (L2N.CX P w) 2 a fd ["_law_told_here"] (Cw K 1 (AR 6 (EK K cs))):=
 Bh F Cm (fun cdv A outer s H E hr=>
  (Al (CJ (TK (GR (Ea (Ka (JC (by rfl) T.n_isinstance (Ac (Ae 0) (Ac (FR (by rfl) T.n_tuple Lq) Af))))) (FH (CK (DW (Kh hr)) (Cr (by rfl) T.n_len (Ac (Ae 0) Af)) Aj)))) (Ap (AF Fw)) Bu)
  (Al (NH 1 Cm.nd (D0 Af))
  (Al (Dd (passes_of (by rfl)) (by rfl) (AS (Ae 0)) (Ay 2 Cm.nd)
  (Al (CJ (TK (GR (Ea (Ka (JC (by rfl) T.n_isinstance (Ac (Ae 2) (Ac (FR (by rfl) T.n_tuple Lq) Af))))) (FH (CK (DW (Kh hr)) (Cr (by rfl) T.n_len (Ac (Ae 2) Af)) Aj)))) (Ap (AF Fw)) Bu)
  (Al (L1 3 Cm.nd)
  (Al (Cf 4 Cm.nd Dj)
  (Al (Dd (passes_of (by rfl)) (by rfl) (AS (Ae 2)) (Ay 5 Cm.nd)
  (Al (CJ (TK (GR (Ea (Ka (JC (by rfl) T.n_isinstance (Ac (Ae 5) (Ac (FR (by rfl) T.n_tuple Lq) Af))))) (FH (CK (K1 (Kh hr)) (Cr (by rfl) T.n_len (Ac (Ae 5) Af)) Aj)))) (Ap (AF Fw)) Bu)
  (Al (CJ (TK (GR (Ea (Ka (JC (by rfl) T.n_isinstance (Ac (B7 5 Aj) (Ac (FR (by rfl) T.n_str UZ) Af))))) (GR (Ea (Ka (Aw (Ke T) (L2N.takes_of (by rfl) (by rfl) (by rfl) (by rfl)) hr (by decide) (by rfl) (Ac (B7 5 Aj) Af)))) (FH (CK (Ul hr) (B7 5 Aj) (Ae 4)))))) (Ap (AF Fw)) Bu)
  (Al (Cf 4 Cm.nd (B7 5 Aj))
  (Ap (NR hr 3 (B7 5 Aj) (Ae 4)))))))
  (Ap (HU 1 (Ae 3))))))))
  (Ap (AF (Ae 1)))))))
theorem HE(T:Tx P w K mg base cs):ClR P w K mg base "_law_form" 2 (DX K cs):=by
 obtain ⟨a,fd,F,hm⟩:=T.F__law_form
 exact CG (Ou T F) hm F.kp (AG F (fun kV doc pm an cdv ct us hl=>match us,hl with | [_],_=>rfl))
theorem Dg:FnScope ["_law_row_here","_law_point_here","_law_name"] ["_law_row_here","_law_point_here"] (defScope AA):=⟨rfl,rfl,rfl,by decide +kernel,rfl,by decide +kernel,by decide +kernel⟩
theorem IM(T:Tx P w K mg base cs){a:Addr}{fd:FuncData}(F:FunD K "_law_row_value" "_law_row_value" (defArgs AA) (defBody AA) (defScope AA) [] [] a fd):FnOk P w K mg base (L2N.CX P w) 1 a fd ["_law_row_here","_law_point_here"] (Cw K 2 (AR 3 (CC K cs))):=
 Bh F Dg (fun cdv A outer s H E hr=>
  (Ap (AF (NP (by rfl) (by rfl) T.n_max (Ac (CI (U7 0 [("_law_name",2)] (by rfl) Dg.nd (fun s2 H2 C2 cl2 fp2=>(Ay 2 Dg.nd)) (fun s2 H2 C2 cl2 fp2=>Ct) (fun s2 H2 C2 cl2 fp2=>(BL (FY hr (Ae 1) (Ae 2)) (FY hr (Ae 0) (Ae 2)))) (ok:=by exact blkOk_by (N:=["_law_row_here","_law_point_here","_law_name"]) (sc:=defScope AA) (by decide +kernel)))) Af)))))
theorem Hz(T:Tx P w K mg base cs):ClR P w K mg base "_law_row_value" 1 (B6 K cs):=by
 obtain ⟨a,fd,F,hm⟩:=T.F__law_row_value
 exact CG (IM T F) hm F.kp (AG F (fun kV doc pm an cdv ct us hl=>match us,hl with | [_,_],_=>rfl))
theorem EY:FnScope ["_law_rows_here","_law_point_here","_law_row_here"] ["_law_rows_here","_law_point_here"] (defScope A2):=⟨rfl,rfl,rfl,by decide +kernel,rfl,by decide +kernel,by decide +kernel⟩
theorem Mp(T:Tx P w K mg base cs){a:Addr}{fd:FuncData}(F:FunD K "_law_value" "_law_value" (defArgs A2) (defBody A2) (defScope A2) [] [] a fd):FnOk P w K mg base (L2N.CX P w) 2 a fd ["_law_rows_here","_law_point_here"] (Cw K 2 (AR 3 (Em K cs))):=
 Bh F EY (fun cdv A outer s H E hr=>
  (Ap (AF (Xl (by rfl) (by rfl) T.n_min (Ac (CI (Ie [("_law_row_here",2)] (by rfl) EY.nd (AS (Ae 0)) (fun s2 H2 C2 cl2 fp2=>(Ay 2 EY.nd)) (fun s2 H2 C2 cl2 fp2=>Ct) (fun s2 H2 C2 cl2 fp2=>(Aw (Hz T) FD.takes0 hr (by decide) (by rfl) (Ac (Ae 2) (Ac (Ae 1) Af)))) (ok:=by exact blkOk_by (N:=["_law_rows_here","_law_point_here","_law_row_here"]) (sc:=defScope A2) (by decide +kernel)))) Af)))))
theorem DE(T:Tx P w K mg base cs):ClR P w K mg base "_law_value" 2 (Au K cs):=by
 obtain ⟨a,fd,F,hm⟩:=T.F__law_value
 exact CG (Mp T F) hm F.kp (AG F (fun kV doc pm an cdv ct us hl=>match us,hl with | [_,_],_=>rfl))
theorem DP:FnScope ["_law_rows_here","_law_row_here","_law_name"] ["_law_rows_here"] (defScope BM):=⟨rfl,rfl,rfl,by decide +kernel,rfl,by decide +kernel,by decide +kernel⟩
theorem Pg(T:Tx P w K mg base cs){a:Addr}{fd:FuncData}(F:FunD K "_law_far" "_law_far" (defArgs BM) (defBody BM) (defScope BM) [] [] a fd):FnOk P w K mg base (L2N.CX P w) 1 a fd ["_law_rows_here"] (Cw K 1 (AR 3 (FG K cs))):=
 Bh F DP (fun cdv A outer s H E hr=>
  (Ap (AF (BL Aj (NP (by rfl) (by rfl) T.n_max (Ac (CI (Ie [("_law_row_here",1)] (by rfl) DP.nd (AS (Ae 0)) (fun s2 H2 C2 cl2 fp2=>(Ay 1 DP.nd)) (fun s2 H2 C2 cl2 fp2=>Ct) (fun s2 H2 C2 cl2 fp2=>(NP (by rfl) (by rfl) T.n_max (Ac (CI (U7 1 [("_law_name",2)] (by rfl) DP.nd (fun s2 H2 C2 cl2 fp2=>(Ay 2 DP.nd)) (fun s2 H2 C2 cl2 fp2=>Ct) (fun s2 H2 C2 cl2 fp2=>(YM (by rfl) T.n_abs (Ac (FY hr (Ae 1) (Ae 2)) Af))) (ok:=by exact LG ["_law_rows_here","_law_row_here","_law_name"] rfl (by decide +kernel)))) Af))) (ok:=by exact blkOk_by (N:=["_law_rows_here","_law_row_here","_law_name"]) (sc:=defScope BM) (by decide +kernel)))) Af))))))
theorem Pe(T:Tx P w K mg base cs):ClR P w K mg base "_law_far" 1 (Fv K cs):=by
 obtain ⟨a,fd,F,hm⟩:=T.F__law_far
 exact CG (Pg T F) hm F.kp (AG F (fun kV doc pm an cdv ct us hl=>match us,hl with | [_],_=>rfl))
theorem DD:FnScope ["_law_row_here","_law_names_here","_law_far_here","_law_point_here","_law_name"] ["_law_row_here","_law_names_here","_law_far_here"] (defScope Be):=⟨rfl,rfl,rfl,by decide +kernel,rfl,by decide +kernel,by decide +kernel⟩
theorem Ms(T:Tx P w K mg base cs){a:Addr}{fd:FuncData}(F:FunD K "_law_point" "_law_point" (defArgs Be) (defBody Be) (defScope Be) [] [] a fd):FnOk P w K mg base (L2N.CX P w) 1 a fd ["_law_row_here","_law_names_here","_law_far_here"] (Cw K 3 (AR 5 (Ed K cs))):=
 Bh F DD (fun cdv A outer s H E hr=>
  (Al (L1 3 DD.nd)
  (Al (Dd (passes_of (by rfl)) (by rfl) (AS (Ae 1)) (Ay 4 DD.nd)
  (Ap (NR hr 3 (Ae 2) (Ae 4))))
  (Al (Qr 0 (passes_of (by rfl)) (by rfl) (Ay 4 DD.nd)
  (Ap (NR hr 3 (Ht Aj (FY hr (Ae 0) (Ae 4))) (Ae 4))))
  (Ap (AF (Ae 3)))))))
theorem Mv(T:Tx P w K mg base cs):ClR P w K mg base "_law_point" 1 (Ci K cs):=by
 obtain ⟨a,fd,F,hm⟩:=T.F__law_point
 exact CG (Ms T F) hm F.kp (AG F (fun kV doc pm an cdv ct us hl=>match us,hl with | [_,_,_],_=>rfl))
theorem DC:FnScope ["_law_rows_here","_law_others","_law_names_here","_law_far_here","_law_row_here","_law_point_here"] ["_law_rows_here","_law_others","_law_names_here"] (defScope A8):=⟨rfl,rfl,rfl,by decide +kernel,rfl,by decide +kernel,by decide +kernel⟩
theorem My(T:Tx P w K mg base cs){a:Addr}{fd:FuncData}(F:FunD K "_law_agree" "_law_agree" (defArgs A8) (defBody A8) (defScope A8) [] [] a fd):FnOk P w K mg base (L2N.CX P w) 3 a fd ["_law_rows_here","_law_others","_law_names_here"] (Cw K 3 (AR 6 (D9 K cs))):=
 Bh F DC (fun cdv A outer s H E hr=>
  (Al (Cf 3 DC.nd (Aw (Pe T) (L2N.takes_of (by rfl) (by rfl) (by rfl) (by rfl)) hr (by decide) (by rfl) (Ac (BL (Ae 0) (Ae 1)) Af)))
  (Al (Dd (passes_of (by rfl)) (by rfl) (AS (BL (Ae 0) (Ae 1))) (Ay 4 DC.nd)
  (Al (Cf 5 DC.nd (Aw (Mv T) (L2N.takes_of (by rfl) (by rfl) (by rfl) (by rfl)) hr (by decide) (by rfl) (Ac (Ae 4) (Ac (Ae 2) (Ac (Ae 3) Af)))))
  (Ap (CJ (CK (K1 (Kh hr)) (Aw (DE T) (L2N.takes_of (by rfl) (by rfl) (by rfl) (by rfl)) hr (by decide) (by rfl) (Ac (Ae 0) (Ac (Ae 5) Af))) (Aw (DE T) (L2N.takes_of (by rfl) (by rfl) (by rfl) (by rfl)) hr (by decide) (by rfl) (Ac (Ae 1) (Ac (Ae 5) Af)))) (Ap (AF CZ)) Bu))))
  (Ap (AF CZ)))))
theorem Mq(T:Tx P w K mg base cs):ClR P w K mg base "_law_agree" 3 (Eg K cs):=by
 obtain ⟨a,fd,F,hm⟩:=T.F__law_agree
 exact CG (My T F) hm F.kp (AG F (fun kV doc pm an cdv ct us hl=>match us,hl with | [_,_,_],_=>rfl))
theorem Eu:FnScope ["_law_row_here","_law_found","_law_name"] ["_law_row_here"] (defScope AZ):=⟨rfl,rfl,rfl,by decide +kernel,rfl,by decide +kernel,by decide +kernel⟩
theorem L9(T:Tx P w K mg base cs){a:Addr}{fd:FuncData}(F:FunD K "_law_turned" "_law_turned" (defArgs AZ) (defBody AZ) (defScope AZ) [] [] a fd):FnOk P w K mg base (L2N.CX P w) 1 a fd ["_law_row_here"] (Cw K 1 (AR 3 (DH K cs))):=
 Bh F Eu (fun cdv A outer s H E hr=>
  (Al (L1 1 Eu.nd)
  (Al (Dd (passes_of (by rfl)) (by rfl) (AS (CI (UD (CI (U5 (by rfl) (by rfl) T.n_list (Ac (Ae 0) Af)))))) (Ay 2 Eu.nd)
  (Ap (NR hr 1 (FY hr (Ae 0) (Ae 2)) (Ae 2))))
  (Ap (AF (Ae 1))))))
theorem LO(T:Tx P w K mg base cs):ClR P w K mg base "_law_turned" 1 (CS K cs):=by
 obtain ⟨a,fd,F,hm⟩:=T.F__law_turned
 exact CG (L9 T F) hm F.kp (AG F (fun kV doc pm an cdv ct us hl=>match us,hl with | [_],_=>rfl))
theorem Hf:FnScope ["_law_low","_law_high","_law_name"] ["_law_low","_law_high"] (defScope A9):=⟨rfl,rfl,rfl,by decide +kernel,rfl,by decide +kernel,by decide +kernel⟩
theorem MA(T:Tx P w K mg base cs){a:Addr}{fd:FuncData}(F:FunD K "_law_below" "_law_below" (defArgs A9) (defBody A9) (defScope A9) [] [] a fd):FnOk P w K mg base (L2N.CX P w) 1 a fd ["_law_low","_law_high"] (Cw K 2 (AR 3 (Eo K cs))):=
 Bh F Hf (fun cdv A outer s H E hr=>
  (Al (Qr 0 (passes_of (by rfl)) (by rfl) (Ay 2 Hf.nd)
  (Ap (CJ (TK (GR (MM hr (Ae 2) (Ae 1)) (FH (CK KR (FY hr (Ae 0) (Ae 2)) (FY hr (Ae 1) (Ae 2)))))) (Ap (AF CZ)) Bu)))
  (Ap (AF CZ))))
theorem Hh(T:Tx P w K mg base cs):ClR P w K mg base "_law_below" 1 (AQ K cs):=by
 obtain ⟨a,fd,F,hm⟩:=T.F__law_below
 exact CG (MA T F) hm F.kp (AG F (fun kV doc pm an cdv ct us hl=>match us,hl with | [_,_],_=>rfl))
theorem Ob:FnScope ["_law_row_here"] ["_law_row_here"] (defScope BJ):=⟨rfl,rfl,rfl,by decide +kernel,rfl,by decide +kernel,by decide +kernel⟩
theorem Of(T:Tx P w K mg base cs){a:Addr}{fd:FuncData}(F:FunD K "_law_flat" "_law_flat" (defArgs BJ) (defBody BJ) (defScope BJ) [] [] a fd):FnOk P w K mg base (L2N.CX P w) 1 a fd ["_law_row_here"] (Cw K 1 (AR 1 (ES K cs))):=
 Bh F Ob (fun cdv A outer s H E hr=>
  (Ap (AF (Pp (by rfl) T.n_tuple (Ac (CI (LZ hr (by rfl) T.n_sorted (Ac (CI (HF (by rfl) (Ae 0) (by rfl) T.n_list)) Af))) Af)))))
theorem NB(T:Tx P w K mg base cs):ClR P w K mg base "_law_flat" 1 (DM K cs):=by
 obtain ⟨a,fd,F,hm⟩:=T.F__law_flat
 exact CG (Of T F) hm F.kp (AG F (fun kV doc pm an cdv ct us hl=>match us,hl with | [_],_=>rfl))
theorem A3:FnScope ["_law_told_here","_law_rows_here","_law_lows","_law_flats","_law_row_here","_law_k","_law_n","_law_low"] ["_law_told_here","_law_rows_here"] (defScope AM):=⟨rfl,rfl,rfl,by decide +kernel,rfl,by decide +kernel,by decide +kernel⟩
theorem La(T:Tx P w K mg base cs){a:Addr}{fd:FuncData}(F:FunD K "_law_normal" "_law_normal" (defArgs AM) (defBody AM) (defScope AM) [] [] a fd):FnOk P w K mg base (L2N.CX P w) 3 a fd ["_law_told_here","_law_rows_here"] (Cw K 2 (AR 8 (DJ K cs))):=
 Bh F A3 (fun cdv A outer s H E hr=>
  (Al (Cf 2 A3.nd (Aw (HE T) (L2N.takes_of (by rfl) (by rfl) (by rfl) (by rfl)) hr (by decide) (by rfl) (Ac (Ae 0) Af)))
  (Al (CJ (CK Qx (Ae 2) Fw) (Ap (AF CZ)) Bu)
  (Al (Km 3 [("_law_row_here",4)] (by rfl) A3.nd (AS (Ae 1)) (fun s2 H2 C2 cl2 fp2=>(Ay 4 A3.nd)) (fun s2 H2 C2 cl2 fp2=>Ct) (fun s2 H2 C2 cl2 fp2=>(Aw (NB T) FD.takes0 hr (by decide) (by rfl) (Ac (Ae 4) Af))) (ok:=by exact blkOk_by (N:=["_law_told_here","_law_rows_here","_law_lows","_law_flats","_law_row_here","_law_k","_law_n","_law_low"]) (sc:=defScope AM) (by decide +kernel)))
  (Al (Dd (passes_of (by rfl)) (by rfl) (Et (by rfl) T.n_range (Cr (by rfl) T.n_len (Ac (Ae 0) Af))) (Ay 5 A3.nd)
  (Al (CJ (TK (GR (CK (SH hr) (B7 0 (Ae 5)) (Ae 3) (hm:=by with_unfolding_all rfl)) (FH (TK (IJ (CK KR (Ae 5) Aj) (GF (Ea (CK (Ul hr) (B7 0 (Ht (Ae 5) Aj)) (B7 0 (Ae 5)))))))))) (Ap (AF CZ)) Bu)
  (Ap (Dd (passes_of (by rfl)) (by rfl) (Et (by rfl) T.n_range (Cr (by rfl) T.n_len (Ac (Ae 2) Af))) (Ay 6 A3.nd)
  (Ap (CJ (TK (IJ (CK (K1 (Kh hr)) (Ae 6) (Ae 5)) (GF (Ka (Aw (Hh T) (L2N.takes_of (by rfl) (by rfl) (by rfl) (by rfl)) hr (by decide) (by rfl) (Ac (B7 2 (Ae 6)) (Ac (B7 2 (Ae 5)) Af))))))) (Ap (AF CZ)) Bu))))))
  (Al (Dd (passes_of (by rfl)) (by rfl) (AS (Ae 1)) (Ay 4 A3.nd)
  (Ap (CJ (Ea (Ka (Ym (by rfl) (by rfl) T.n_any (Ac (CI (Ie [("_law_low",7)] (by rfl) A3.nd (AS (Ae 2)) (fun s2 H2 C2 cl2 fp2=>(Ay 7 A3.nd)) (fun s2 H2 C2 cl2 fp2=>Ct) (fun s2 H2 C2 cl2 fp2=>(Aw (Hh T) FD.takes0 hr (by decide) (by rfl) (Ac (Ae 7) (Ac (Ae 4) Af)))) (ok:=by exact blkOk_by (N:=["_law_told_here","_law_rows_here","_law_lows","_law_flats","_law_row_here","_law_k","_law_n","_law_low"]) (sc:=defScope AM) (by decide +kernel)))) Af)))) (Ap (AF CZ)) Bu)))
  (Ap (AF CZ))))))))
theorem LB(T:Tx P w K mg base cs):ClR P w K mg base "_law_normal" 3 (DF K cs):=by
 obtain ⟨a,fd,F,hm⟩:=T.F__law_normal
 exact CG (La T F) hm F.kp (AG F (fun kV doc pm an cdv ct us hl=>match us,hl with | [_,_],_=>rfl))
theorem BX:FnScope ["_law_rows_here","_law_handed","_law_row_here","_law_told_here"] ["_law_rows_here"] (defScope AY):=⟨rfl,rfl,rfl,by decide +kernel,rfl,by decide +kernel,by decide +kernel⟩
theorem N0(T:Tx P w K mg base cs){a:Addr}{fd:FuncData}(F:FunD K "_law_told" "_law_told" (defArgs AY) (defBody AY) (defScope AY) [] [] a fd):FnOk P w K mg base (L2N.CX P w) 6 a fd ["_law_rows_here"] (Cw K 1 (AR 4 (EV K cs))):=
 Bh F BX (fun cdv A outer s H E hr=>
  (Al (Km 1 [("_law_row_here",2)] (by rfl) BX.nd (AS (Ae 0)) (fun s2 H2 C2 cl2 fp2=>(Ay 2 BX.nd)) (fun s2 H2 C2 cl2 fp2=>Ct) (fun s2 H2 C2 cl2 fp2=>(Ly (by rfl) T.n_dict (Ac (Ae 2) Af))) (ok:=by exact blkOk_by (N:=["_law_rows_here","_law_handed","_law_row_here","_law_told_here"]) (sc:=defScope AY) (by decide +kernel)))
  (Al (Cf 3 BX.nd (Aw (Hj T) (L2N.takes_of (by rfl) (by rfl) (by rfl) (by rfl)) hr (by decide) (by rfl) (Ac (Ae 1) Af)))
  (Al (CJ (CK (K1 (Kh hr)) (CI (Ie [("_law_row_here",2)] (by rfl) BX.nd (AS (Ae 1)) (fun s2 H2 C2 cl2 fp2=>(Ay 2 BX.nd)) (fun s2 H2 C2 cl2 fp2=>Ct) (fun s2 H2 C2 cl2 fp2=>(CI (HF (by rfl) (Ae 2) (by rfl) T.n_list))) (ok:=by exact blkOk_by (N:=["_law_rows_here","_law_handed","_law_row_here","_law_told_here"]) (sc:=defScope AY) (by decide +kernel)))) (CI (Ie [("_law_row_here",2)] (by rfl) BX.nd (AS (Ae 0)) (fun s2 H2 C2 cl2 fp2=>(Ay 2 BX.nd)) (fun s2 H2 C2 cl2 fp2=>Ct) (fun s2 H2 C2 cl2 fp2=>(CI (HF (by rfl) (Ae 2) (by rfl) T.n_list))) (ok:=by exact blkOk_by (N:=["_law_rows_here","_law_handed","_law_row_here","_law_told_here"]) (sc:=defScope AY) (by decide +kernel))))) (Ap (AF Fw)) Bu)
  (Al (CJ (Ea (Ka (Aw (LB T) (L2N.takes_of (by rfl) (by rfl) (by rfl) (by rfl)) hr (by decide) (by rfl) (Ac (Ae 3) (Ac (Ae 0) Af))))) (Ap (AF Fw)) Bu)
  (Ap (AF (Ae 3))))))))
theorem En(T:Tx P w K mg base cs):ClR P w K mg base "_law_told" 6 (Cv K cs):=by
 obtain ⟨a,fd,F,hm⟩:=T.F__law_told
 exact CG (N0 T F) hm F.kp (AG F (fun kV doc pm an cdv ct us hl=>match us,hl with | [_],_=>rfl))
theorem Bi:FnScope ["_law_rows_here","_law_names_here","_law_box_here","_law_spread_here","_law_told_here","_law_row_here","_law_lows","_law_k","_law_point_here","_law_name","_law_others","_law_other","#"] ["_law_rows_here","_law_names_here","_law_box_here","_law_spread_here"] (defScope Bm):=⟨rfl,rfl,rfl,by decide +kernel,rfl,by decide +kernel,by decide +kernel⟩
theorem Ov(T:Tx P w K mg base cs){a:Addr}{fd:FuncData}(F:FunD K "_law_good" "_law_good" (defArgs Bm) (defBody Bm) (defScope Bm) [] [] a fd):FnOk P w K mg base (L2N.CX P w) 7 a fd ["_law_rows_here","_law_names_here","_law_box_here","_law_spread_here"] (LS K 4 (runM 12 (ET K cs))):=
 Ee F Bi rfl (by decide) (fun cdv A outer s H E hr=>
  (Al (Cf 4 Bi.nd (Aw (En T) (L2N.takes_of (by rfl) (by rfl) (by rfl) (by rfl)) hr (by decide) (by rfl) (Ac (Ae 0) Af)))
  (Al (CJ (CK Qx (Ae 4) Fw) (Ap (AF CZ)) Bu)
  (Al (CJ (CK (K1 (Kh hr)) (Aw (En T) (L2N.takes_of (by rfl) (by rfl) (by rfl) (by rfl)) hr (by decide) (by rfl) (Ac (BL (CI (Ie [("_law_row_here",5)] (by rfl) Bi.nd (AS (CI (UD (Ae 0)))) (fun s2 H2 C2 cl2 fp2=>(Ay 5 Bi.nd)) (fun s2 H2 C2 cl2 fp2=>Ct) (fun s2 H2 C2 cl2 fp2=>(Aw (LO T) FD.takes0 hr (by decide) (by rfl) (Ac (Ae 5) Af))) (ok:=by exact blkOk_by (N:=["_law_rows_here","_law_names_here","_law_box_here","_law_spread_here","_law_told_here","_law_row_here","_law_lows","_law_k","_law_point_here","_law_name","_law_others","_law_other","#"]) (sc:=defScope Bm) (by decide +kernel)))) (CI (D0 (Ac (Ly (by rfl) T.n_dict (Ac (B7 0 Aj) Af)) Af)))) Af)) (Ae 4)) (Ap (AF CZ)) Bu)
  (Al (Cf 6 Bi.nd (Aw (HE T) (L2N.takes_of (by rfl) (by rfl) (by rfl) (by rfl)) hr (by decide) (by rfl) (Ac (Ae 4) Af)))
  (Al (CJ (CK (K1 (Kh hr)) (Aw (En T) (L2N.takes_of (by rfl) (by rfl) (by rfl) (by rfl)) hr (by decide) (by rfl) (Ac (Ae 6) Af)) (Ae 4)) (Ap (AF CZ)) Bu)
  (Al (Dd (passes_of (by rfl)) (by rfl) (Et (by rfl) T.n_range Aj) (Ay 7 Bi.nd)
  (Al (L1 8 Bi.nd)
  (Al (Dd (passes_of (by rfl)) (by rfl) (AS (Ae 1)) (Ay 9 Bi.nd)
  (Ap (Ks (S:=[12]) hr 8 (Ud (As (n:=12) (Aq T) (L2N.takes_of (by rfl) (by rfl) (by rfl) (by rfl)) hr (by decide) (by rfl) (AU (Ac (Ae 2) (Ac Aj Af)))) (D1 Aj)) (Ae 9))))
  (Ap (CJ (CK (K1 (Kh hr)) (Aw (DE T) (L2N.takes_of (by rfl) (by rfl) (by rfl) (by rfl)) hr (by decide) (by rfl) (Ac (Ae 6) (Ac (Ae 8) Af))) (Aw (DE T) (L2N.takes_of (by rfl) (by rfl) (by rfl) (by rfl)) hr (by decide) (by rfl) (Ac (Ae 0) (Ac (Ae 8) Af)))) (Ap (AF CZ)) Bu)))))
  (Al (BB (S:=[12]) 10 Bi.nd (As (n:=12) (NK T) (L2N.takes_of (by rfl) (by rfl) (by rfl) (by rfl)) hr (by decide) (by rfl) (AU (Ac (Ae 2) (Ac (Ae 0) (Ac (Ae 1) (Ac (Ae 3) Af)))))))
  (Al (Cf 11 Bi.nd (Aw (En T) (L2N.takes_of (by rfl) (by rfl) (by rfl) (by rfl)) hr (by decide) (by rfl) (Ac (Ae 10) Af)))
  (Al (CJ (CK Qx (Ae 11) Fw) (Ap (AF CZ)) Bu)
  (Ap (AF (Wg (DW (Kh hr)) (Wg (DW (Kh hr)) (Ae 11) (Ae 4)) (Aw (Mq T) (L2N.takes_of (by rfl) (by rfl) (by rfl) (by rfl)) hr (by decide) (by rfl) (Ac (Ae 0) (Ac (Ae 10) (Ac (Ae 1) Af)))))))))))))))))
theorem N9(T:Tx P w K mg base cs):ClM P w K mg base "_law_good" 7 (DV K cs):=by
 obtain ⟨a,fd,F,hm⟩:=T.F__law_good
 exact FT (Ov T F) hm F.kp (BZ F (fun kV doc pm an cdv ct us hl=>match us,hl with | [_,_,_,_],_=>rfl))
theorem Dm:FnScope ["_law_script","_law_box_here","_law_large","_law_count","_law_names_here","_law_pick","_law_spread_here","_law_many","_law_rows_here","_law_last","_law_holed","_law_row_here","#"] ["_law_script"] (defScope Dc):=⟨rfl,rfl,rfl,by decide +kernel,rfl,by decide +kernel,by decide +kernel⟩
theorem Yg(T:Tx P w K mg base cs){a:Addr}{fd:FuncData}(F:FunD K "law" "law" (defArgs Dc) (defBody Dc) (defScope Dc) [] [] a fd):FnOk P w K mg base (L2N.CX P w) 8 a fd ["_law_script"] (Cw K 1 (Ml 12 (Rb K cs))):=
 RK F Dm rfl (by decide) (fun cdv A outer s H E hr=>
  (Al (BB (S:=[12]) 1 Dm.nd (As (n:=12) (EM T) (L2N.takes_of (by rfl) (by rfl) (by rfl) (by rfl)) hr (by decide) (by rfl) (AU (Ac (Ae 0) (Ac Aj Af)))))
  (Al (BB (S:=[12]) 2 Dm.nd (px_c (DW (Kh hr)) (As (n:=12) (Aq T) (L2N.takes_of (by rfl) (by rfl) (by rfl) (by rfl)) hr (by decide) (by rfl) (AU (Ac (Ae 1) (Ac Aj Af)))) (D1 Aj)))
  (Al (BB (S:=[12]) 3 Dm.nd (O8 (D1 (CI (D0 (Ac Aj (Ac Aj (Ac Aj (Ac Aj (Ac Aj Af)))))))) (As (n:=12) (Aq T) (L2N.takes_of (by rfl) (by rfl) (by rfl) (by rfl)) hr (by decide) (by rfl) (AU (Ac (Ae 1) (Ac Aj Af))))))
  (Al (CJ (Ka (Ae 2)) (Ap (BB (S:=[12]) 3 Dm.nd (Hs (D1 Aj) (As (n:=12) (Aq T) (L2N.takes_of (by rfl) (by rfl) (by rfl) (by rfl)) hr (by decide) (by rfl) (AU (Ac (Ae 1) (Ac Aj Af))))))) Bu)
  (Al (BB (S:=[12]) 4 Dm.nd (As (n:=12) (MF T) (L2N.takes_of (by rfl) (by rfl) (by rfl) (by rfl)) hr (by decide) (by rfl) (AU (Ac (Ae 1) (Ac (Ae 3) Af)))))
  (Al (BB (S:=[12]) 5 Dm.nd (As (n:=12) (EM T) (L2N.takes_of (by rfl) (by rfl) (by rfl) (by rfl)) hr (by decide) (by rfl) (AU (Ac (Ae 0) (Ac Aj Af)))))
  (Al (BB (S:=[12]) 6 Dm.nd (As (n:=12) (LX T) (L2N.takes_of (by rfl) (by rfl) (by rfl) (by rfl)) hr (by decide) (by rfl) (AU (Ac (Ae 5) Af))))
  (Al (BB (S:=[12]) 7 Dm.nd (O8 (D1 (CI (D0 (Ac Aj (Ac Aj (Ac Aj (Ac Aj (Ac Aj (Ac Aj Af))))))))) (As (n:=12) (Aq T) (L2N.takes_of (by rfl) (by rfl) (by rfl) (by rfl)) hr (by decide) (by rfl) (AU (Ac (Ae 5) (Ac Aj Af))))))
  (Al (Po (S:=[12]) (Ro (DW (Kh hr)) (As (n:=12) (Aq T) (L2N.takes_of (by rfl) (by rfl) (by rfl) (by rfl)) hr (by decide) (by rfl) (AU (Ac (Ae 5) (Ac Aj Af)))) (D1 Aj)) (Ap (BB (S:=[12]) 7 Dm.nd (Hs (D1 Aj) (As (n:=12) (Aq T) (L2N.takes_of (by rfl) (by rfl) (by rfl) (by rfl)) hr (by decide) (by rfl) (AU (Ac (Ae 5) (Ac Aj Af))))))) Bu)
  (Al (Cf 8 Dm.nd (Aw (Oy T) (L2N.takes_of (by rfl) (by rfl) (by rfl) (by rfl)) hr (by decide) (by rfl) (Ac (Ae 0) (Ac (Ae 4) (Ac (Ae 6) (Ac (Ae 7) Af))))))
  (Al (BB (S:=[12]) 9 Dm.nd (As (n:=12) (EM T) (L2N.takes_of (by rfl) (by rfl) (by rfl) (by rfl)) hr (by decide) (by rfl) (AU (Ac (Ae 0) (Ac (BL Aj (Ae 7)) Af)))))
  (Al (Po (S:=[12]) (VE (Zm (As (n:=12) (N9 T) (L2N.takes_of (by rfl) (by rfl) (by rfl) (by rfl)) hr (by decide) (by rfl) (AU (Ac (Ae 8) (Ac (Ae 4) (Ac (Ae 9) (Ac (Ae 6) Af)))))))) (Ap (AF CZ)) Bu)
  (Al (Km 10 [("_law_row_here",11)] (by rfl) Dm.nd (AS (Ae 8)) (fun s2 H2 C2 cl2 fp2=>(Ay 11 Dm.nd)) (fun s2 H2 C2 cl2 fp2=>Ct) (fun s2 H2 C2 cl2 fp2=>(Ly (by rfl) T.n_dict (Ac (Ae 11) Af))) (ok:=by exact blkOk_by (N:=["_law_script","_law_box_here","_law_large","_law_count","_law_names_here","_law_pick","_law_spread_here","_law_many","_law_rows_here","_law_last","_law_holed","_law_row_here","#"]) (sc:=defScope Dc) (by decide +kernel)))
  (Al (MQ (S:=[12]) 10 (E6 (As (n:=12) (Aq T) (L2N.takes_of (by rfl) (by rfl) (by rfl) (by rfl)) hr (by decide) (by rfl) (AU (Ac (Ae 9) (Ac (BL (Cr (by rfl) T.n_len (Ac (Ae 8) Af)) Aj) Af)))) (AU (Ac PH Af))))
  (Ap (AF (FL (Aw (D2 T) (L2N.takes_of (by rfl) (by rfl) (by rfl) (by rfl)) hr (by decide) (by rfl) (Ac (CI (D0 Af)) Af)) (FL (Aw (D2 T) (L2N.takes_of (by rfl) (by rfl) (by rfl) (by rfl)) hr (by decide) (by rfl) (Ac (CI (D0 (Ac PH Af))) Af)) (Kz (Aw (D2 T) (L2N.takes_of (by rfl) (by rfl) (by rfl) (by rfl)) hr (by decide) (by rfl) (Ac (Ae 10) Af))))))))))))))))))))))
end
end Lk13
namespace Nf
section
variable {κ:Type} [DecidableEq κ]
abbrev Rw(κ:Type):=List (κ × Int)
def ks(a:Rw κ):List κ:=a.map (·.1)
def sm(a:Rw κ):Int:=(a.map (·.2)).sum
def Below(a b:Rw κ):Prop:=∀ p∈a,∃ y,(p.1,y)∈b∧p.2≤y
theorem GI{a:Rw κ}{k:κ}{x:Int}(h:(k,x)∈a):k∈ks a:=List.mem_map.mpr ⟨(k,x),h,rfl⟩
theorem Below.refl(a:Rw κ):Below a a:=fun p hp=>⟨p.2,hp,Int.le_refl _⟩
theorem Below.trans{a b c:Rw κ}(h:Below a b)(h':Below b c):Below a c:=fun p hp=>by
 obtain ⟨y,hy,l⟩:=h p hp
 obtain ⟨z,hz,l'⟩:=h' _ hy
 exact ⟨z,hz,Int.le_trans l l'⟩
theorem Below.Lm{a b:Rw κ}(h:∀ p∈a,p∈b):Below a b:=fun p hp=>⟨p.2,h p hp,Int.le_refl _⟩
theorem uniq{a:Rw κ}(n:(ks a).Nodup){k:κ}{x y:Int}(h:(k,x)∈a)(h':(k,y)∈a):x=y:=by
 induction a with
 | nil=>cases h
 | cons q a ih=>
  obtain ⟨n1,n2⟩:=List.nodup_cons.mp (show (q.1 :: ks a).Nodup from n)
  rcases List.mem_cons.mp h with e | m <;> rcases List.mem_cons.mp h' with e' | m'
  ·rw [← e] at e'; cases e'; rfl
  ·exact absurd (by rw [← e]; exact GI m') n1
  ·exact absurd (by rw [← e']; exact GI m) n1
  ·exact ih n2 m m'
theorem VO{a b:Rw κ}(h:a.Perm b):sm a=sm b:=by
 unfold sm
 induction h with
 | nil=>rfl
 | cons x _ ih=>simp only [List.map_cons,List.sum_cons,ih]
 | swap x y l=>simp only [List.map_cons,List.sum_cons]; omega
 | trans _ _ h1 h2=>exact h1.trans h2
theorem Fu:∀ {a b:Rw κ},(ks a).Nodup→(ks b).Nodup→Below a b→a.length≤b.length∧(a.length=b.length→sm a≤sm b∧(sm a=sm b→a.Perm b))
 | [],b,_,_,_=>⟨Nat.zero_le _,fun e=>by
   have:b=[]:=List.eq_nil_of_length_eq_zero e.symm
   subst this
   exact ⟨Int.le_refl _,fun _=>.refl _⟩⟩
 | (k,x) :: a,b,na,nb,h=>by
  obtain ⟨n1,n2⟩:=List.nodup_cons.mp (show (k :: ks a).Nodup from na)
  obtain ⟨y,hy,l⟩:=h (k,x) List.mem_cons_self
  have l:x≤y:=l
  have hp:b.Perm ((k,y) :: b.erase (k,y)):=List.perm_cons_erase hy
  have nb':(ks (b.erase (k,y))).Nodup∧k∉ks (b.erase (k,y)):=by
   have q':(k :: ks (b.erase (k,y))).Nodup:=(List.Perm.map (fun p:κ × Int=>p.1) hp).nodup_iff.mp nb
   obtain ⟨q1,q2⟩:=List.nodup_cons.mp q'
   exact ⟨q2,q1⟩
  have hb:Below a (b.erase (k,y)):=fun p hp'=>by
   obtain ⟨z,hz,lz⟩:=h p (List.mem_cons_of_mem _ hp')
   refine ⟨z,?_,lz⟩
   rcases List.mem_cons.mp (hp.mem_iff.mp hz) with e | hz
   ·have e1:p.1=k:=congrArg Prod.fst e
    exact absurd (List.mem_map.mpr ⟨p,hp',e1⟩) n1
   ·exact hz
  obtain ⟨i1,i2⟩:=Fu n2 nb'.1 hb
  have hl:b.length=(b.erase (k,y)).length + 1:=by rw [hp.length_eq]; rfl
  have hs:sm b=y + sm (b.erase (k,y)):=by rw [VO hp]; rfl
  have ha:sm ((k,x) :: a)=x + sm a:=rfl
  refine ⟨by rw [hl]; exact Nat.succ_le_succ i1,fun e=>?_⟩
  obtain ⟨j1,j2⟩:=i2 (by have e':a.length + 1=b.length:=e; omega)
  refine ⟨by omega,fun e'=>?_⟩
  have e2:x=y:=by omega
  subst e2
  exact ((j2 (by omega)).cons _).trans hp.symm
end
end Nf
namespace Nf
open PySem PySem.W PyProof.Rows SX TL
abbrev Kn:=List Nat
abbrev Row:=Rw Kn
def sP(k:Kn):PyData:=.str (S k)
def pP(p:Kn × Int):PyData:=.tuple [sP p.1,.int p.2]
def rP(r:Row):PyData:=.tuple (r.map pP)
theorem S_inj{a b:Kn}(h:S a=S b):a=b:=by
 have:=congrArg (fun s:Str=>s.cps.toList) h
 simpa [S] using this
theorem KO(p q:Kn × Int):alike (pP p) (pP q)=true:=by
 unfold pP sP
 simp [alike,alikeAll]
theorem JV:∀ a b:Row,alikeAll (a.map pP) (b.map pP)=true
 | [],b=>by simp [alikeAll]
 | p :: a,[]=>by simp [alikeAll]
 | p :: a,q :: b=>by
  rw [List.map_cons,List.map_cons,alikeAll,KO,JV a b]
  rfl
theorem IP(a b:Row):alike (rP a) (rP b)=true:=by
 unfold rP
 rw [alike]
 exact JV a b
theorem Vb(a b:Kn):PyData.eqv (sP a) (sP b)=decide (a=b):=by
 unfold sP
 rw [PyData.eqv]
 by_cases h:a=b
 ·subst h; simp
 ·rw [decide_eq_false h]
  exact beq_eq_false_iff_ne.mpr fun e=>h (S_inj e)
theorem Vc(p q:Kn × Int):PyData.eqv (pP p) (pP q)=decide (p=q):=by
 obtain ⟨k,x⟩:=p
 obtain ⟨j,y⟩:=q
 unfold pP
 rw [PyData.eqv,PyData.eqvAll,PyData.eqvAll,PyData.eqvAll,Vb,PyData.eqv]
 by_cases h1:k=j <;> by_cases h2:x=y <;> simp [h1,h2]
theorem Jj:∀ a b:Row,PyData.eqvAll (a.map pP) (b.map pP)=decide (a=b)
 | [],[]=>by simp [PyData.eqvAll]
 | [],q :: b=>by simp [PyData.eqvAll]
 | p :: a,[]=>by simp [PyData.eqvAll]
 | p :: a,q :: b=>by
  rw [List.map_cons,List.map_cons,PyData.eqvAll,Vc,Jj a b]
  simp
theorem NU(a b:Row):PyData.eqv (rP a) (rP b)=decide (a=b):=by
 unfold rP
 rw [PyData.eqv]
 exact Jj a b
theorem KD{x y:PyData}(h:alike x y=true)(e:keyToks x=keyToks y):PyData.eqv x y=true:=by
 cases hv:PyData.eqv x y with
 | true=>rfl
 | false=>
  have q:=(toks_eqv x y h).2 hv [] [.inl 0]
  rw [e,lex_irrefl,lex_pre] at q
  exact absurd (show true=false from q) (by decide)
structure Od (α:Type) where
 tok:α→List (Int ⊕ List Nat)
 inj:∀ a b,tok a=tok b→a=b
namespace Od
variable {α:Type} (O:Od α)
def lt(a b:α):Bool:=PyProof.Rows.lexLt itemOrd (O.tok a) (O.tok b)
def le(a b:α):Bool:=!O.lt b a
theorem irr(a:α):O.lt a a=false:=lex_irrefl (O:=itemOrd) _
theorem tr{a b c:α}(h:O.lt a b=true)(h':O.lt b c=true):O.lt a c=true:=lex_trans (O:=itemOrd) _ _ _ h h'
theorem tot{a b:α}(h:O.lt a b=false)(h':O.lt b a=false):a=b:=O.inj _ _ (lex_total (O:=itemOrd) _ _ h h')
theorem asym{a b:α}(h:O.lt a b=true):O.lt b a=false:=by
 cases e:O.lt b a with
 | false=>rfl
 | true=>have:=O.tr h e; rw [O.irr] at this; exact this.symm
theorem Uw(a b c:α)(h:O.le a b=true)(h':O.le b c=true):O.le a c=true:=by
 unfold le at *
 cases e:O.lt c a with
 | false=>rfl
 | true=>
  rcases lex_negTrans (O:=itemOrd) _ (O.tok b) _ e with z | z
  ·have z:O.lt c b=true:=z
   rw [z] at h'; exact h'
  ·have z:O.lt b a=true:=z
   rw [z] at h; exact h
theorem Qk(a b:α):(O.le a b || O.le b a)=true:=by
 unfold le
 cases e:O.lt b a with
 | false=>rfl
 | true=>rw [O.asym e]; rfl
theorem Ra(a b:α)(h:O.le a b=true)(h':O.le b a=true):a=b:=by
 unfold le at *
 exact O.tot (by simpa using h') (by simpa using h)
theorem le_iff{a b:α}:O.le a b=true ↔ O.lt b a=false:=by unfold le; cases O.lt b a <;> simp
def sort(l:List α):List α:=l.mergeSort O.le
theorem Er(l:List α):(O.sort l).Perm l:=List.mergeSort_perm _ _
theorem Kr(l:List α):(O.sort l).Pairwise fun a b=>O.le a b=true:=List.pairwise_mergeSort O.Uw O.Qk l
theorem one{a b:List α}(h:a.Perm b)(ha:a.Pairwise fun a b=>O.le a b=true)(hb:b.Pairwise fun a b=>O.le a b=true):a=b:=
 (Srt.the_of_perm O.le O.Uw O.Qk O.Ra h ha).trans (Srt.the_of_perm O.le O.Uw O.Qk O.Ra (List.Perm.refl b) hb).symm
end Od
def pO:Od (Kn × Int):=⟨fun p=>keyToks (pP p),fun a b e=>by have q:=KD (KO a b) e; rw [Vc] at q; exact of_decide_eq_true q⟩
def rO:Od Row:=⟨fun r=>keyToks (rP r),fun a b e=>by have q:=KD (IP a b) e; rw [NU] at q; exact of_decide_eq_true q⟩
theorem af(p q:Kn × Int):pO.lt p q=dataLt (pP p) (pP q):=rfl
theorem VC(p q:Kn × Int):pO.lt p q=true ↔ p.1 < q.1∨(p.1=q.1∧p.2 < q.2):=by
 rw [af]
 unfold pP sP
 rw [dataLt_pair (by simp [alike]) (by simp [alike]),dataLt_str,dataLt_int,show PyData.eqv (.str (S p.1)) (.str (S q.1))=decide (p.1=q.1) from Vb p.1 q.1,PyData.eqv]
 simp only [S,List.toList_toArray]
 by_cases h:p.1=q.1
 ·rw [decide_eq_true h,if_pos rfl,h]
  by_cases h2:p.2=q.2
  ·rw [h2]; simp [List.lt_irrefl]
  ·rw [if_neg (by simpa using h2)]; simp [List.lt_irrefl]
 ·rw [decide_eq_false h,if_neg (by decide)]
  simp [h]
def Up(r:Row):Prop:=r.Pairwise fun a b=>a.1 < b.1
def flat(r:Row):Row:=pO.sort r
structure Flat (r:Row):Prop where
 nd:(ks r).Nodup
 up:r.Pairwise fun a b=>pO.le a b=true
theorem Cp(r:Row):(flat r).Perm r:=pO.Er r
theorem N6{a b:Row}(h:a.Perm b):(ks a).Perm (ks b):=h.map _
theorem MV{r:Row}(h:(ks r).Nodup):Flat (flat r):=⟨(N6 (Cp r)).nodup_iff.mpr h,pO.Kr r⟩
theorem Flat.eq{a b:Row}(ha:Flat a)(hb:Flat b)(h:a.Perm b):a=b:=pO.one h ha.up hb.up
theorem Flat.self{a:Row}(h:Flat a):flat a=a:=pO.one (Cp a) (pO.Kr a) h.up
theorem Flat.rise{r:Row}(h:Flat r):Up r:=by
 have n:r.Pairwise fun a b=>a.1≠b.1:=List.pairwise_map.mp h.nd
 refine (h.up.and n).imp fun {a b} ⟨h1,h2⟩=>?_
 cases e:pO.lt a b with
 | true=>
  rcases (VC a b).mp e with z | z
  ·exact z
  ·exact absurd z.1 h2
 | false=>
  have:a=b:=pO.tot e (pO.le_iff.mp h1)
  exact absurd (congrArg Prod.fst this) h2
theorem Below.perm{a b c d:Row}(h:Below a b)(p:a.Perm c)(q:b.Perm d):Below c d:=fun x hx=>by
 obtain ⟨y,hy,l⟩:=h x (p.mem_iff.mpr hx)
 exact ⟨y,q.mem_iff.mp hy,l⟩
theorem Flat.Bv{a b:Row}(ha:Flat a)(hb:Flat b)(h:Below a b)(h':Below b a):a=b:=by
 obtain ⟨l1,i1⟩:=Fu ha.nd hb.nd h
 obtain ⟨l2,i2⟩:=Fu hb.nd ha.nd h'
 have e:a.length=b.length:=by omega
 obtain ⟨s1,p1⟩:=i1 e
 obtain ⟨s2,_⟩:=i2 e.symm
 exact ha.eq hb (p1 (by omega))
def tP(r:Row):PyData:=.tuple [.int r.length,.int (sm r),rP r]
theorem PN(a b:Row):alike (tP a) (tP b)=true:=by
 unfold tP
 rw [alike,alikeAll,alikeAll,alikeAll,IP]
 simp [alike,alikeAll]
theorem Y5(a b:Row):PyData.eqv (tP a) (tP b)=decide (a=b):=by
 unfold tP
 rw [PyData.eqv,PyData.eqvAll,PyData.eqvAll,PyData.eqvAll,PyData.eqvAll,NU,PyData.eqv,PyData.eqv]
 by_cases h:a=b
 ·subst h; simp
 ·simp [h]
def tO:Od Row:=⟨fun r=>keyToks (tP r),fun a b e=>by have q:=KD (PN a b) e; rw [Y5] at q; exact of_decide_eq_true q⟩
theorem Xz(a b:Row):tO.lt a b=dataLt (tP a) (tP b):=rfl
theorem W8{a b:Row}(h:a.length < b.length):tO.lt a b=true:=by
 rw [Xz]
 unfold tP
 rw [dataLt_tuple,dataLt_cons (by simp [alike]),PyData.eqv,if_neg (by simp; omega),dataLt_int]
 exact decide_eq_true (by omega)
theorem Y6{a b:Row}(h:a.length=b.length)(h':sm a < sm b):tO.lt a b=true:=by
 rw [Xz]
 unfold tP
 rw [dataLt_tuple,dataLt_cons (by simp [alike]),PyData.eqv,if_pos (by simp [h]),dataLt_cons (by simp [alike]),PyData.eqv,if_neg (by simp; omega),dataLt_int]
 exact decide_eq_true h'
theorem Th{a b:Row}(ha:Flat a)(hb:Flat b)(h:Below a b)(hn:tO.lt a b=false):a=b:=by
 obtain ⟨l1,i1⟩:=Fu ha.nd hb.nd h
 by_cases e:a.length=b.length
 ·obtain ⟨s1,p1⟩:=i1 e
  by_cases e2:sm a=sm b
  ·exact ha.eq hb (p1 e2)
  ·rw [Y6 e (by omega)] at hn; cases hn
 ·rw [W8 (by omega)] at hn; cases hn
end Nf
namespace Nf
section
variable {κ:Type} [DecidableEq κ]
def gt:Rw κ→κ→Option Int
 | [],_=>none
 | p :: r,j=>if j=p.1 then some p.2 else gt r j
theorem LY{r:Rw κ}{k:κ}{x:Int}(h:gt r k=some x):(k,x)∈r:=by
 induction r with
 | nil=>cases h
 | cons p r ih=>
  unfold gt at h
  by_cases e:k=p.1
  ·rw [if_pos e] at h
   cases h
   rw [e]
   exact List.mem_cons_self
  ·rw [if_neg e] at h
   exact List.mem_cons_of_mem _ (ih h)
theorem Fy{r:Rw κ}{k:κ}:gt r k=none ↔ k∉ks r:=by
 induction r with
 | nil=>exact ⟨fun _ h=>(nomatch h),fun _=>rfl⟩
 | cons p r ih=>
  unfold gt
  show _ ↔ k∉p.1 :: ks r
  by_cases e:k=p.1
  ·rw [if_pos e,e]; simp
  ·rw [if_neg e,ih]; simp [e]
theorem JZ{r:Rw κ}{k:κ}{x:Int}(n:(ks r).Nodup)(h:(k,x)∈r):gt r k=some x:=by
 cases e:gt r k with
 | none=>exact absurd (GI h) (Fy.mp e)
 | some y=>rw [uniq n (LY e) h]
def Bz(a b:Rw κ):Bool:=a.all fun p=>match gt b p.1 with
 | some y=>decide (p.2≤y)
 | none=>false
theorem Fs{a b:Rw κ}(n:(ks b).Nodup):Bz a b=true ↔ Below a b:=by
 unfold Bz Below
 rw [List.all_eq_true]
 refine forall_congr' fun p=>forall_congr' fun _=>?_
 constructor
 ·intro h
  cases e:gt b p.1 with
  | none=>rw [e] at h; cases h
  | some y=>rw [e] at h; exact ⟨y,LY e,of_decide_eq_true h⟩
 ·rintro ⟨y,hy,l⟩
  rw [JZ n hy]
  exact decide_eq_true l
end
def keep:List Row→List Row→List Row
 | K,[]=>K
 | K,r :: R=>if (K.any fun o=>Bz o r)=true then keep K R else keep (K ++ [r]) R
def AC(L:List Row):Prop:=L.Pairwise fun x y=>¬ Below x y∧¬ Below y x
theorem AC.eq{L:List Row}(h:AC L){x y:Row}(hx:x∈L)(hy:y∈L)(b:Below x y):x=y:=by
 induction L with
 | nil=>cases hx
 | cons z L ih=>
  obtain ⟨h1,h2⟩:=List.pairwise_cons.mp h
  rcases List.mem_cons.mp hx with e | hx <;> rcases List.mem_cons.mp hy with e' | hy
  ·rw [e,e']
  ·rw [e] at b; exact absurd b (h1 _ hy).1
  ·rw [e'] at b; exact absurd b (h1 _ hx).2
  ·exact ih h2 hx hy
theorem Jy:∀ (R K:List Row),(∀ r∈R,Flat r)→(∀ r∈K,Flat r)→AC K→(∀ k∈K,∀ r∈R,tO.lt r k=false)→(R.Pairwise fun a b=>tO.lt b a=false) →
  AC (keep K R)∧(∀ x∈keep K R,x∈K∨x∈R)∧(∀ x∈K,x∈keep K R)∧∀ r∈R,∃ o∈keep K R,Below o r
 | [],K,_,_,h,_,_=>⟨h,fun x hx=>.inl hx,fun x hx=>hx,fun r hr=>nomatch hr⟩
 | r :: R,K,fr,fk,h,hk,hr=>by
  obtain ⟨p1,p2⟩:=List.pairwise_cons.mp hr
  have fR:∀ r∈R,Flat r:=fun x hx=>fr x (List.mem_cons_of_mem _ hx)
  have f0:=fr r List.mem_cons_self
  unfold keep
  by_cases e:(K.any fun o=>Bz o r)=true
  ·rw [if_pos e]
   obtain ⟨i1,i2,i3,i4⟩:=Jy R K fR fk h (fun k hk' x hx=>hk k hk' x (List.mem_cons_of_mem _ hx)) p2
   refine ⟨i1,fun x hx=>(i2 x hx).imp id (List.mem_cons_of_mem _),i3,fun x hx=>?_⟩
   rcases List.mem_cons.mp hx with rfl | hx
   ·obtain ⟨o,ho,b⟩:=List.any_eq_true.mp e
    exact ⟨o,i3 o ho,(Fs f0.nd).mp b⟩
   ·exact i4 x hx
  ·rw [if_neg e]
   have hn:∀ o∈K,¬ Below o r:=fun o ho b=>e (List.any_eq_true.mpr ⟨o,ho,(Fs f0.nd).mpr b⟩)
   have hA:AC (K ++ [r]):=List.pairwise_append.mpr ⟨h,List.pairwise_singleton _ _,fun k hk' y hy=>by
    rw [List.mem_singleton.mp hy]
    refine ⟨hn k hk',fun b=>hn k hk' ?_⟩
    have:=Th f0 (fk k hk') b (hk k hk' r List.mem_cons_self)
    rw [this]
    exact Below.refl _⟩
   obtain ⟨i1,i2,i3,i4⟩:=Jy R (K ++ [r]) fR (fun x hx=>by
    rcases List.mem_append.mp hx with z | z
    ·exact fk x z
    ·rw [List.mem_singleton.mp z]; exact f0) hA (fun k hk' x hx=>by
    rcases List.mem_append.mp hk' with z | z
    ·exact hk k z x (List.mem_cons_of_mem _ hx)
    ·rw [List.mem_singleton.mp z]; exact p1 x hx) p2
   refine ⟨i1,fun x hx=>?_,fun x hx=>i3 x (List.mem_append_left _ hx),fun x hx=>?_⟩
   ·rcases i2 x hx with z | z
    ·rcases List.mem_append.mp z with z | z
     ·exact .inl z
     ·rw [List.mem_singleton.mp z]; exact .inr List.mem_cons_self
    ·exact .inr (List.mem_cons_of_mem _ z)
   ·rcases List.mem_cons.mp hx with rfl | hx
    ·exact ⟨x,i3 x (List.mem_append_right _ (List.mem_singleton.mpr rfl)),Below.refl _⟩
    ·exact i4 x hx
def lows(R:List Row):List Row:=rO.sort (keep [] (tO.sort R))
def Kc(R S:List Row):Prop:=∀ s∈S,∃ r∈R,Below r s
theorem Kc.trans{A B C:List Row}(h:Kc A B)(h':Kc B C):Kc A C:=fun c hc=>by
 obtain ⟨b,hb,l⟩:=h' c hc
 obtain ⟨a,ha,l'⟩:=h b hb
 exact ⟨a,ha,l'.trans l⟩
theorem Kc.Lm{R S:List Row}(h:∀ s∈S,∃ r∈R,r.Perm s):Kc R S:=fun s hs=>by
 obtain ⟨r,hr,p⟩:=h s hs
 exact ⟨r,hr,Below.Lm fun x hx=>p.mem_iff.mp hx⟩
structure NF (L:List Row):Prop where
 fl:∀ l∈L,Flat l
 ac:AC L
 up:L.Pairwise fun a b=>rO.lt a b=true
theorem SO{R:List Row}(h:∀ r∈R,Flat r):NF (lows R)∧(∀ l∈lows R,l∈R)∧Kc (lows R) R:=by
 have hp:=tO.Er R
 obtain ⟨i1,i2,i3,i4⟩:=Jy (tO.sort R) [] (fun r hr=>h r (hp.mem_iff.mp hr)) (fun r hr=>nomatch hr) List.Pairwise.nil (fun k hk=>nomatch hk) ((tO.Kr R).imp fun z=>tO.le_iff.mp z)
 have hq:=rO.Er (keep [] (tO.sort R))
 have m:∀ l∈lows R,l∈R:=fun l hl=>by
  rcases i2 l (hq.mem_iff.mp hl) with z | z
  ·cases z
  ·exact hp.mem_iff.mp z
 have ac:AC (lows R):=hq.symm.pairwise i1 (fun {x y} z=>⟨z.2,z.1⟩)
 refine ⟨⟨fun l hl=>h l (m l hl),ac,?_⟩,m,fun r hr=>?_⟩
 ·refine ((rO.Kr _).and ac).imp fun {a b} ⟨h1,h2⟩=>?_
  cases e:rO.lt a b with
  | true=>rfl
  | false=>
   have:a=b:=rO.tot e (rO.le_iff.mp h1)
   exact absurd (this ▸ Below.refl a) h2.1
 ·obtain ⟨o,ho,b⟩:=i4 r (hp.mem_iff.mpr hr)
  exact ⟨o,hq.mem_iff.mpr ho,b⟩
theorem NF.sub{L L':List Row}(h:NF L)(h':NF L')(d:Kc L L')(d':Kc L' L):∀ l∈L,l∈L':=fun l hl=>by
 obtain ⟨m,hm,b⟩:=d' l hl
 obtain ⟨n,hn,c⟩:=d m hm
 have e:=h.ac.eq hn hl (c.trans b)
 subst e
 rw [(h.fl _ hn).Bv (h'.fl _ hm) c b]
 exact hm
theorem NF.nodup{L:List Row}(h:NF L):L.Nodup:=h.up.imp fun {a b} z e=>by rw [e,rO.irr] at z; cases z
theorem NF.one{L L':List Row}(h:NF L)(h':NF L')(d:Kc L L')(d':Kc L' L):L=L':=by
 have p:L.Perm L':=(List.perm_ext_iff_of_nodup h.nodup h'.nodup).mpr fun x=>⟨h.sub h' d d' x,h'.sub h d' d x⟩
 refine rO.one p (h.up.imp fun {a b} z=>?_) (h'.up.imp fun {a b} z=>?_) <;> exact rO.le_iff.mpr (rO.asym z)
end Nf
namespace Nf
open FD
def mx(r:Row)(f:Kn→Int):Int:=F6 (r.map fun p=>f p.1 + p.2)
def vl(R:List Row)(f:Kn→Int):Int:=Mf (R.map fun r=>mx r f)
theorem Q5{r:Row}{f:Kn→Int}{c:Int}(h:r≠[]):mx r f≤c ↔ ∀ p∈r,f p.1 + p.2≤c:=by
 obtain ⟨h1,h2⟩:=E5 (l:=r.map fun p=>f p.1 + p.2) (by simpa using h)
 constructor
 ·intro z p hp
  exact Int.le_trans (h2 _ (List.mem_map.mpr ⟨p,hp,rfl⟩)) z
 ·intro z
  obtain ⟨p,hp,e⟩:=List.mem_map.mp h1
  unfold mx
  rw [← e]
  exact z p hp
theorem RQ{R:List Row}{f:Kn→Int}{c:Int}(h:R≠[]):vl R f≤c ↔ ∃ r∈R,mx r f≤c:=by
 obtain ⟨h1,h2⟩:=JL (l:=R.map fun r=>mx r f) (by simpa using h)
 constructor
 ·intro z
  obtain ⟨p,hp,e⟩:=List.mem_map.mp h1
  exact ⟨p,hp,by have e:mx p f=vl R f:=e; rw [e]; exact z⟩
 ·rintro ⟨r,hr,z⟩
  exact Int.le_trans (h2 _ (List.mem_map.mpr ⟨r,hr,rfl⟩)) z
theorem UN{a b:Row}{f:Kn→Int}(ha:a≠[])(hb:b≠[])(h:Below a b):mx a f≤mx b f:=(Q5 ha).mpr fun p hp=>by
 obtain ⟨y,hy,l⟩:=h p hp
 have:=(Q5 (f:=f) hb).mp (Int.le_refl _) _ hy
 have:f p.1 + y≤mx b f:=this
 omega
theorem U0{R S:List Row}{f:Kn→Int}(hR:R≠[])(hS:S≠[])(nR:∀ r∈R,r≠[])(nS:∀ r∈S,r≠[])(d:Kc R S):vl R f≤vl S f:=by
 obtain ⟨s,hs,z⟩:=(RQ (f:=f) hS).mp (Int.le_refl _)
 obtain ⟨r,hr,b⟩:=d s hs
 exact (RQ hR).mpr ⟨r,hr,Int.le_trans (UN (nR r hr) (nS s hs) b) z⟩
theorem Vi{R S:List Row}{f:Kn→Int}(hR:R≠[])(hS:S≠[])(nR:∀ r∈R,r≠[])(nS:∀ r∈S,r≠[])(d:Kc R S)(d':Kc S R):vl R f=vl S f:=
 Int.le_antisymm (U0 hR hS nR nS d) (U0 hS hR nS nR d')
def M5(r:Row)(far:Int):Kn→Int:=fun k=>match gt r k with
 | some x=>0 - x
 | none=>far
theorem Xg{r:Row}{far:Int}(n:(ks r).Nodup)(h:r≠[]):mx r (M5 r far)≤0:=(Q5 h).mpr fun p hp=>by
 unfold M5
 rw [JZ n hp]
 show 0 - p.2 + p.2≤0
 omega
theorem Vx{s r:Row}{far:Int}(h:s≠[])(hf:∀ p∈s,0 < far + p.2)(z:mx s (M5 r far)≤0):Below s r:=fun p hp=>by
 have q:=(Q5 h).mp z p hp
 unfold M5 at q
 cases e:gt r p.1 with
 | none=>rw [e] at q; have:=hf p hp; have q:far + p.2≤0:=q; omega
 | some x=>rw [e] at q; exact ⟨x,LY e,by have q:0 - x + p.2≤0:=q; omega⟩
structure Rs (R:List Row):Prop where
 ne:R≠[]
 nn:∀ r∈R,r≠[]
 nd:∀ r∈R,(ks r).Nodup
theorem Uz{R S:List Row}{far:Int}(hR:Rs R)(hS:Rs S)(hf:∀ s∈S,∀ p∈s,0 < far + p.2)(h:∀ r∈R,vl R (M5 r far)=vl S (M5 r far)):Kc S R:=fun r hr=>by
 have z:vl R (M5 r far)≤0:=(RQ hR.ne).mpr ⟨r,hr,Xg (hR.nd r hr) (hR.nn r hr)⟩
 rw [h r hr] at z
 obtain ⟨s,hs,l⟩:=(RQ hS.ne).mp z
 exact ⟨s,hs,Vx (hS.nn s hs) (hf s hs) l⟩
theorem Tq{R S:List Row}{far:Int}(hR:Rs R)(hS:Rs S)(hf:∀ s∈R ++ S,∀ p∈s,0 < far + p.2):(∀ r∈R ++ S,vl R (M5 r far)=vl S (M5 r far)) ↔ Kc R S∧Kc S R:=by
 constructor
 ·intro h
  exact ⟨Uz hS hR (fun s hs=>hf s (List.mem_append_left _ hs)) fun r hr=>(h r (List.mem_append_right _ hr)).symm,Uz hR hS (fun s hs=>hf s (List.mem_append_right _ hs)) fun r hr=>h r (List.mem_append_left _ hr)⟩
 ·rintro ⟨d,d'⟩ r _
  exact Vi hR.ne hS.ne hR.nn hS.nn d d'
def nf(R:List Row):List Row:=lows (R.map flat)
theorem Ep{R:List Row}(n:∀ r∈R,(ks r).Nodup):NF (nf R)∧(∀ l∈nf R,∃ r∈R,l=flat r)∧Kc (nf R) R∧Kc R (nf R):=by
 obtain ⟨h1,h2,h3⟩:=SO (R:=R.map flat) fun r hr=>by
  obtain ⟨x,hx,rfl⟩:=List.mem_map.mp hr
  exact MV (n x hx)
 have m:∀ l∈nf R,∃ r∈R,l=flat r:=fun l hl=>by
  obtain ⟨x,hx,e⟩:=List.mem_map.mp (h2 l hl)
  exact ⟨x,hx,e.symm⟩
 refine ⟨h1,m,fun r hr=>?_,fun l hl=>?_⟩
 ·obtain ⟨l,hl,b⟩:=h3 (flat r) (List.mem_map.mpr ⟨r,hr,rfl⟩)
  exact ⟨l,hl,b.perm (List.Perm.refl _) (Cp r)⟩
 ·obtain ⟨r,hr,rfl⟩:=m l hl
  exact ⟨r,hr,Below.Lm fun x hx=>(Cp r).mem_iff.mpr hx⟩
theorem QL{R S:List Row}(n:∀ r∈R,(ks r).Nodup)(n':∀ r∈S,(ks r).Nodup)(d:Kc R S)(d':Kc S R):nf R=nf S:=by
 obtain ⟨a1,_,a3,a4⟩:=Ep n
 obtain ⟨b1,_,b3,b4⟩:=Ep n'
 exact a1.one b1 (a3.trans (d.trans b4)) (b3.trans (d'.trans a4))
theorem Ys{R S:List Row}(n:∀ r∈R,(ks r).Nodup)(n':∀ r∈S,(ks r).Nodup):nf R=nf S ↔ Kc R S∧Kc S R:=by
 constructor
 ·intro e
  obtain ⟨_,_,a3,a4⟩:=Ep n
  obtain ⟨_,_,b3,b4⟩:=Ep n'
  rw [← e] at b3 b4
  exact ⟨a4.trans b3,b4.trans a3⟩
 ·rintro ⟨d,d'⟩
  exact QL n n' d d'
theorem Vk{R S:List Row}(n:∀ r∈R,(ks r).Nodup)(n':∀ r∈S,(ks r).Nodup)(h:∀ s∈S,∃ r∈R,r.Perm s)(h':∀ r∈R,∃ s∈S,s.Perm r):nf S=nf R:=
 QL n' n (Kc.Lm h') (Kc.Lm h)
theorem Zo{R:List Row}(n:∀ r∈R,(ks r).Nodup):nf (nf R)=nf R:=by
 obtain ⟨a1,_,a3,a4⟩:=Ep n
 exact QL (fun r hr=>(a1.fl r hr).nd) n a3 a4
end Nf
local macro_rules | `(tactic| push_cast [$xs,*]) => `(tactic| simp only [FD.Ik, FD.Fp, FD.E8, FD.A7, Bool.true_or, Bool.false_or, FD.OI, FD.PB, FD.Lh, FD.KQ, FD.GN, FD.Gu, FD.IK, FD.PD, FD.Fd, FD.HA, FD.IL, FD.Gz, FD.HB, FD.Cell.P0, FD.GH, FD.Fo, FD.Fi, FD.Gn, FD.IZ, FD.Es, FD.Ij, FD.ID, FD.GU, FD.Gj, FD.KH, FD.GJ, FD.Jd, FD.E9, FD.KY, FD.KG, FD.XO.AB, FD.Out.Pc, FD.KN, FD.CD, FD.L5, FD.L3, FD.PL, FD.Fx, FD.Gf, FD.Mb, FD.IY, FD.Ge, FD.Gm, FD.Ir, FD.G3, FD.EA, FD.OY, FD.LR, FD.HC, FD.IQ, FD.Ln, FD.OH, FD.Px, FD.O2, FD.OL, FD.Il, FD.LA, FD.Hy, FD.IH, FD.GC, FD.HK, FD.I0, FD.O9, FD.OS, FD.Fe, FD.HX, FD.Ih, FD.HD, FD.E7, FD.GG, FD.HQ, FD.DN, FD.Iw, FD.GL, FD.Fg, FD.DG, FD.LP, FD.K4, FD.Lw, FD.Ls, FD.Lf, FD.Lo.PU, List.all_cons, List.all_nil, Bool.and_true, Bool.true_and, Bool.and_false, Bool.false_and, FD.IE, FD.IS, FD.Gi, FD.G6, FD.Out.AB, FD.Df, FD.HY, FD.DA, FD.Ey, FD.DS, FD.Co, FD.HR, FD.CO, FD.K2, FD.HL, FD.K5, FD.E4, FD.IV, FD.GV, FD.HH, FD.Jf, FD.Hx, FD.PR, FD.Pk, FD.Pl, FD.Gv, Option.bind_some, Option.map_some, FD.E1, FD.Jc, FD.Ll, FD.Gk, FD.HZ, FD.LJ, FD.IU, FD.Lg, FD.Ic, FD.Dt.IG, FD.Gq, FD.Ff, FD.IA, FD.Ip, FD.HS, FD.DR, FD.Dk, FD.FE, List.map_cons, List.map_nil, List.length_cons, List.length_nil, List.cons_append, List.nil_append, List.set_cons_zero, List.set_cons_succ, List.getElem?_cons_zero, List.getElem?_cons_succ, Nat.reduceAdd, Nat.reduceSub, Nat.zero_add, Nat.sub_self, List.replicate_zero, List.replicate_succ, Nat.reduceLeDiff, if_true, if_false, Bool.false_eq_true, Bool.not_true, Bool.not_false, decide_eq_true_eq, FD.Pr, FD.Iy, FD.Fn, FD.EB, FD.GP, FD.KC, FD.GB, FD.GS, FD.IX, FD.Jb, FD.IW, FD.Fm, FD.K0, FD.Gx, FD.KI, FD.IB, FD.LC, $xs,*])
local macro_rules | `(tactic| push_cast [$xs,*] at $h:ident) => `(tactic| simp only [FD.Ik, FD.Fp, FD.E8, FD.A7, Bool.true_or, Bool.false_or, FD.OI, FD.PB, FD.Lh, FD.KQ, FD.GN, FD.Gu, FD.IK, FD.PD, FD.Fd, FD.HA, FD.IL, FD.Gz, FD.HB, FD.Cell.P0, FD.GH, FD.Fo, FD.Fi, FD.Gn, FD.IZ, FD.Es, FD.Ij, FD.ID, FD.GU, FD.Gj, FD.KH, FD.GJ, FD.Jd, FD.E9, FD.KY, FD.KG, FD.XO.AB, FD.Out.Pc, FD.KN, FD.CD, FD.L5, FD.L3, FD.PL, FD.Fx, FD.Gf, FD.Mb, FD.IY, FD.Ge, FD.Gm, FD.Ir, FD.G3, FD.EA, FD.OY, FD.LR, FD.HC, FD.IQ, FD.Ln, FD.OH, FD.Px, FD.O2, FD.OL, FD.Il, FD.LA, FD.Hy, FD.IH, FD.GC, FD.HK, FD.I0, FD.O9, FD.OS, FD.Fe, FD.HX, FD.Ih, FD.HD, FD.E7, FD.GG, FD.HQ, FD.DN, FD.Iw, FD.GL, FD.Fg, FD.DG, FD.LP, FD.K4, FD.Lw, FD.Ls, FD.Lf, FD.Lo.PU, List.all_cons, List.all_nil, Bool.and_true, Bool.true_and, Bool.and_false, Bool.false_and, FD.IE, FD.IS, FD.Gi, FD.G6, FD.Out.AB, FD.Df, FD.HY, FD.DA, FD.Ey, FD.DS, FD.Co, FD.HR, FD.CO, FD.K2, FD.HL, FD.K5, FD.E4, FD.IV, FD.GV, FD.HH, FD.Jf, FD.Hx, FD.PR, FD.Pk, FD.Pl, FD.Gv, Option.bind_some, Option.map_some, FD.E1, FD.Jc, FD.Ll, FD.Gk, FD.HZ, FD.LJ, FD.IU, FD.Lg, FD.Ic, FD.Dt.IG, FD.Gq, FD.Ff, FD.IA, FD.Ip, FD.HS, FD.DR, FD.Dk, FD.FE, List.map_cons, List.map_nil, List.length_cons, List.length_nil, List.cons_append, List.nil_append, List.set_cons_zero, List.set_cons_succ, List.getElem?_cons_zero, List.getElem?_cons_succ, Nat.reduceAdd, Nat.reduceSub, Nat.zero_add, Nat.sub_self, List.replicate_zero, List.replicate_succ, Nat.reduceLeDiff, if_true, if_false, Bool.false_eq_true, Bool.not_true, Bool.not_false, decide_eq_true_eq, FD.Pr, FD.Iy, FD.Fn, FD.EB, FD.GP, FD.KC, FD.GB, FD.GS, FD.IX, FD.Jb, FD.IW, FD.Fm, FD.K0, FD.Gx, FD.KI, FD.IB, FD.LC, $xs,*] at $h:ident)
local macro_rules | `(tactic| simp! [$xs,*]) => `(tactic| simp -implicitDefEqProofs only [FD.Ik, FD.Fp, FD.E8, FD.A7, Bool.true_or, Bool.false_or, FD.OI, FD.PB, FD.Lh, FD.KQ, FD.GN, FD.Gu, FD.IK, FD.PD, FD.Fd, FD.HA, FD.IL, FD.Gz, FD.HB, FD.Cell.P0, FD.GH, FD.Fo, FD.Fi, FD.Gn, FD.IZ, FD.Es, FD.Ij, FD.ID, FD.GU, FD.Gj, FD.KH, FD.GJ, FD.Jd, FD.E9, FD.KY, FD.KG, FD.XO.AB, FD.Out.Pc, FD.KN, FD.CD, FD.L5, FD.L3, FD.PL, FD.Fx, FD.Gf, FD.Mb, FD.IY, FD.Ge, FD.Gm, FD.Ir, FD.G3, FD.EA, FD.OY, FD.LR, FD.HC, FD.IQ, FD.Ln, FD.OH, FD.Px, FD.O2, FD.OL, FD.Il, FD.LA, FD.Hy, FD.IH, FD.GC, FD.HK, FD.I0, FD.O9, FD.OS, FD.Fe, FD.HX, FD.Ih, FD.HD, FD.E7, FD.GG, FD.HQ, FD.DN, FD.Iw, FD.GL, FD.Fg, FD.DG, FD.LP, FD.K4, FD.Lw, FD.Ls, FD.Lf, FD.Lo.PU, List.all_cons, List.all_nil, Bool.and_true, Bool.true_and, Bool.and_false, Bool.false_and, FD.IE, FD.IS, FD.Gi, FD.G6, FD.Out.AB, FD.Df, FD.HY, FD.DA, FD.Ey, FD.DS, FD.Co, FD.HR, FD.CO, FD.K2, FD.HL, FD.K5, FD.E4, FD.IV, FD.GV, FD.HH, FD.Jf, FD.Hx, FD.PR, FD.Pk, FD.Pl, FD.Gv, Option.bind_some, Option.map_some, FD.E1, FD.Jc, FD.Ll, FD.Gk, FD.HZ, FD.LJ, FD.IU, FD.Lg, FD.Ic, FD.Dt.IG, FD.Gq, FD.Ff, FD.IA, FD.Ip, FD.HS, FD.DR, FD.Dk, FD.FE, List.map_cons, List.map_nil, List.length_cons, List.length_nil, List.cons_append, List.nil_append, List.set_cons_zero, List.set_cons_succ, List.getElem?_cons_zero, List.getElem?_cons_succ, Nat.reduceAdd, Nat.reduceSub, Nat.zero_add, Nat.sub_self, List.replicate_zero, List.replicate_succ, Nat.reduceLeDiff, if_true, if_false, Bool.false_eq_true, Bool.not_true, Bool.not_false, decide_eq_true_eq, FD.Pr, FD.Iy, FD.Fn, FD.EB, FD.GP, FD.KC, FD.GB, FD.GS, FD.IX, FD.Jb, FD.IW, FD.Fm, FD.K0, FD.Gx, FD.KI, FD.IB, FD.LC, $xs,*])
local macro_rules | `(tactic| simp_all! [$xs,*]) => `(tactic| simp -implicitDefEqProofs only [FD.Ik, FD.Fp, FD.E8, FD.A7, Bool.true_or, Bool.false_or, FD.OI, FD.PB, FD.Lh, FD.KQ, FD.GN, FD.Gu, FD.IK, FD.PD, FD.Fd, FD.HA, FD.IL, FD.Gz, FD.HB, FD.Cell.P0, FD.GH, FD.Fo, FD.Fi, FD.Gn, FD.IZ, FD.Es, FD.Ij, FD.ID, FD.GU, FD.Gj, FD.KH, FD.GJ, FD.Jd, FD.E9, FD.KY, FD.KG, FD.XO.AB, FD.Out.Pc, FD.KN, FD.CD, FD.L5, FD.L3, FD.PL, FD.Fx, FD.Gf, FD.Mb, FD.IY, FD.Ge, FD.Gm, FD.Ir, FD.EA, FD.OY, FD.LR, FD.HC, FD.IQ, FD.Ln, FD.OH, FD.Px, FD.O2, FD.OL, FD.Il, FD.LA, FD.Hy, FD.IH, FD.GC, FD.HK, FD.I0, FD.O9, FD.OS, FD.Fe, FD.HX, FD.Ih, FD.HD, FD.E7, FD.GG, FD.HQ, FD.DN, FD.Iw, FD.GL, FD.Fg, FD.DG, FD.LP, FD.K4, FD.Lw, FD.Ls, FD.Lf, FD.Lo.PU, List.all_cons, List.all_nil, Bool.and_true, Bool.true_and, Bool.and_false, Bool.false_and, FD.IE, FD.IS, FD.Gi, FD.G6, FD.Out.AB, FD.Df, FD.HY, FD.DA, FD.Ey, FD.DS, FD.Co, FD.HR, FD.CO, FD.K2, FD.HL, FD.K5, FD.E4, FD.IV, FD.GV, FD.HH, FD.Jf, FD.Hx, FD.PR, FD.Pk, FD.Pl, FD.Gv, Option.bind_some, Option.map_some, FD.E1, FD.Jc, FD.Ll, FD.Gk, FD.HZ, FD.LJ, FD.IU, FD.Lg, FD.Ic, FD.Dt.IG, FD.Gq, FD.Ff, FD.IA, FD.Ip, FD.HS, FD.DR, FD.Dk, FD.FE, List.map_cons, List.map_nil, List.length_cons, List.length_nil, List.cons_append, List.nil_append, List.set_cons_zero, List.set_cons_succ, List.getElem?_cons_zero, List.getElem?_cons_succ, Nat.reduceAdd, Nat.reduceSub, Nat.zero_add, Nat.sub_self, List.replicate_zero, List.replicate_succ, Nat.reduceLeDiff, if_true, if_false, Bool.false_eq_true, Bool.not_true, Bool.not_false, decide_eq_true_eq, FD.Pr, FD.Iy, FD.Fn, FD.EB, FD.GP, FD.KC, FD.GB, FD.GS, FD.IX, FD.Jb, FD.IW, FD.Fm, FD.K0, FD.Gx, FD.KI, FD.IB, FD.LC, $xs,*])
local macro_rules | `(tactic| dsimp! [$xs,*]) => `(tactic| simp -implicitDefEqProofs only [FD.Ik, FD.Fp, FD.E8, FD.A7, Bool.true_or, Bool.false_or, FD.OI, FD.PB, FD.Lh, FD.KQ, FD.GN, FD.Gu, FD.IK, FD.PD, FD.Fd, FD.HA, FD.IL, FD.Gz, FD.HB, FD.Cell.P0, FD.GH, FD.Fo, FD.Fi, FD.Gn, FD.IZ, FD.Es, FD.Ij, FD.ID, FD.GU, FD.Gj, FD.KH, FD.GJ, FD.Jd, FD.E9, FD.KY, FD.KG, FD.XO.AB, FD.Out.Pc, FD.KN, FD.CD, FD.L5, FD.L3, FD.PL, FD.Fx, FD.Gf, FD.Mb, FD.IY, FD.Ge, FD.Gm, FD.Ir, FD.G3, FD.EA, FD.OY, FD.LR, FD.HC, FD.IQ, FD.Ln, FD.OH, FD.Px, FD.O2, FD.OL, FD.Il, FD.LA, FD.Hy, FD.IH, FD.GC, FD.HK, FD.I0, FD.O9, FD.OS, FD.Fe, FD.HX, FD.Ih, FD.HD, FD.E7, FD.GG, FD.HQ, FD.DN, FD.Iw, FD.GL, FD.Fg, FD.DG, FD.LP, FD.K4, FD.Lw, FD.Ls, FD.Lf, FD.Lo.PU, List.all_cons, List.all_nil, Bool.and_true, Bool.true_and, Bool.and_false, Bool.false_and, FD.IE, FD.IS, FD.Gi, FD.G6, FD.Out.AB, FD.Df, FD.HY, FD.DA, FD.Ey, FD.DS, FD.Co, FD.HR, FD.CO, FD.K2, FD.HL, FD.K5, FD.E4, FD.IV, FD.GV, FD.HH, FD.Jf, FD.Hx, FD.PR, FD.Pk, FD.Pl, FD.Gv, Option.bind_some, Option.map_some, FD.Jc, FD.Ll, FD.Gk, FD.HZ, FD.LJ, FD.IU, FD.Lg, FD.Ic, FD.Dt.IG, FD.Gq, FD.Ff, FD.IA, FD.Ip, FD.HS, FD.DR, FD.Dk, FD.FE, List.map_cons, List.map_nil, List.length_cons, List.length_nil, List.cons_append, List.nil_append, List.set_cons_zero, List.set_cons_succ, List.getElem?_cons_zero, List.getElem?_cons_succ, Nat.reduceAdd, Nat.reduceSub, Nat.zero_add, Nat.sub_self, List.replicate_zero, List.replicate_succ, Nat.reduceLeDiff, if_true, if_false, Bool.false_eq_true, Bool.not_true, Bool.not_false, decide_eq_true_eq, FD.Pr, FD.Iy, FD.Fn, FD.EB, FD.GP, FD.KC, FD.GB, FD.GS, FD.IX, FD.Jb, FD.IW, FD.Fm, FD.K0, FD.Gx, FD.KI, FD.IB, FD.LC, $xs,*])
namespace Lk13
open PySem L2 FD SX TL
variable {K:PySem.W.Frag} {cs:Cs}
structure Bx where
 c:Int
 n:Nat
 g:Bool
def F4(b:Bx):Cell:=.lst [.int b.c,.int b.n,.bl b.g]
theorem Gy{i j:Int}(h:-(2 ^ 64) < j∧j < 2 ^ 64):gI EC (· * ·) (.int i) (.int j)=some (.int (i * j)):=by
 have e:EC i j=true:=by
  unfold EC
  rw [show Yr i j=true from decide_eq_true (.inr h),Bool.or_true]
 rw [E1,if_pos e]
theorem Nr{i j:Int}(hj:0 < j)(h2:j < 2 ^ 100):gI ME Int.fdiv (.int i) (.int j)=some (.int (i.fdiv j)):=by
 rw [E1,if_pos]
 refine decide_eq_true ⟨by omega,?_⟩
 have z:j.natAbs≠0:=by omega
 have:j.natAbs.log2 < 100:=(Nat.log2_lt z).mpr (by omega)
 omega
theorem Jh{i j:Int}(hj:0 < j):gI TJ Int.fmod (.int i) (.int j)=some (.int (i.fmod j)):=by
 have h:TJ i j=true:=decide_eq_true (by omega)
 rw [E1,if_pos h]
theorem md{s:Int}(hs:0 < s)(i:Int):0≤i.fmod s∧i.fmod s < s:=⟨Int.fmod_nonneg_of_pos _ hs,Int.fmod_lt_of_pos _ hs⟩
def f1(c:Int)(n:Nat):Int:=(c * (48271 + 69621 * ((n:Int) + 1))).fmod 2147483647
def f2(c:Int)(n:Nat):Int:=(f1 c n * f1 c n + f1 c n * ((n:Int) + 1 + 1013)).fmod 2147483629
def f3(c:Int)(n:Nat):Int:=(f2 c n * ((f2 c n).fdiv 7 + 40692)).fmod 2147483587
theorem YJ{R:List Cell}{j:Nat}{b:Bx}(hb:R[j]? = some (F4 b))(hn:b.n≤1000000000){s:Int}(h1:1≤s)(h2:s < 2 ^ 40):
  ∃ (v:Int) (b':Bx),Ai K cs [.ad j,.int s] R=.ok (.int v) (R.set j (F4 b'))∧0≤v∧v < s∧b'.n=b.n + 1:=by
 obtain ⟨c,n,g⟩:=b
 simp only at hn
 have hj:j < R.length:=by
  rcases Nat.lt_or_ge j R.length with h | h
  ·exact h
  ·rw [List.getElem?_eq_none h] at hb; cases hb
 have hs:∀ c,(R.set j c)[j]? = some c:=fun c=>List.getElem?_set_self hj
 have hb:R[j]? = some (.lst [.int c,.int n,.bl g]):=hb
 have x0:ixN 3 0=some 0:=rfl
 have x1:ixN 3 1=some 1:=rfl
 have x2:ixN 3 2=some 2:=rfl
 have en:(n:Int) + 1=((n + 1:Nat):Int):=by omega
 have sp:0 < s:=by omega
 have ed:∀ cells,Ai K cs [.ad j,.int s] cells=runM 6 (EJ K cs) [.ad j,.int s] cells:=fun _=>D8 rfl
 rw [ed]
 unfold EJ
 cases g with
 | true=>
  refine ⟨c.fmod s,⟨c.fdiv s,n + 1,true⟩,?_,(md sp _).1,(md sp _).2,rfl⟩
  have d1:gI ME Int.fdiv (.int c) (.int s)=some (.int (c.fdiv s)):=Nr sp (by omega)
  simp! [hb,hs,List.set_set,x0,x1,x2,Jh sp,d1]
  rfl
 | false=>
  refine ⟨((f3 c n).fdiv 16 + 5 * ((n:Int) + 1) + ((n:Int) + 1).fdiv 3).fmod s,⟨c,n + 1,false⟩,?_,(md sp _).1,(md sp _).2,rfl⟩
  have k1:=md (s:=2147483647) (by decide) (c * (48271 + 69621 * ((n:Int) + 1)))
  have k1':0≤f1 c n∧f1 c n < 2147483647:=k1
  have k2':0≤f2 c n∧f2 c n < 2147483629:=md (by decide) _
  have k3:0≤(f2 c n).fdiv 7∧(f2 c n).fdiv 7 < 2147483629:=by
   rw [Int.fdiv_eq_ediv_of_nonneg _ (by decide)]
   omega
  have e1:gI EC (· * ·) (.int 69621) (.int ((n:Int) + 1))=some (.int (69621 * ((n:Int) + 1))):=Gy (by omega)
  have e2:gI EC (· * ·) (.int c) (.int (48271 + 69621 * ((n:Int) + 1)))=some (.int (c * (48271 + 69621 * ((n:Int) + 1)))):=Gy (by omega)
  have q1:gI TJ Int.fmod (.int (c * (48271 + 69621 * ((n:Int) + 1)))) (.int 2147483647)=some (.int (f1 c n)):=Jh (by decide)
  have e3:gI EC (· * ·) (.int (f1 c n)) (.int (f1 c n))=some (.int (f1 c n * f1 c n)):=Gy (by omega)
  have e4:gI EC (· * ·) (.int (f1 c n)) (.int ((n:Int) + 1 + 1013))=some (.int (f1 c n * ((n:Int) + 1 + 1013))):=Gy (by omega)
  have q2:gI TJ Int.fmod (.int (f1 c n * f1 c n + f1 c n * ((n:Int) + 1 + 1013))) (.int 2147483629)=some (.int (f2 c n)):=Jh (by decide)
  have d7:gI ME Int.fdiv (.int (f2 c n)) (.int 7)=some (.int ((f2 c n).fdiv 7)):=Nr (by decide) (by decide)
  have e5:gI EC (· * ·) (.int (f2 c n)) (.int ((f2 c n).fdiv 7 + 40692))=some (.int (f2 c n * ((f2 c n).fdiv 7 + 40692))):=Gy (by omega)
  have q3:gI TJ Int.fmod (.int (f2 c n * ((f2 c n).fdiv 7 + 40692))) (.int 2147483587)=some (.int (f3 c n)):=Jh (by decide)
  have d16:gI ME Int.fdiv (.int (f3 c n)) (.int 16)=some (.int ((f3 c n).fdiv 16)):=Nr (by decide) (by decide)
  have e6:gI EC (· * ·) (.int 5) (.int ((n:Int) + 1))=some (.int (5 * ((n:Int) + 1))):=Gy (by omega)
  have d3:gI ME Int.fdiv (.int ((n:Int) + 1)) (.int 3)=some (.int (((n:Int) + 1).fdiv 3)):=Nr (by decide) (by decide)
  simp! [hb,hs,List.set_set,x0,x1,x2,e1,e2,e3,e4,e5,e6,q1,q2,q3,d7,d16,d3,Jh sp]
  rfl
theorem RY(ns:List Int){k:Nat}(hk:k≤1000)(hl:ns.length≤63)(R:List Cell):
  ∃ b:Bx,AW K cs [.fls (ns.map .int),.int k] R=.ok (.ad R.length) (R ++ [F4 b])∧b.n=k:=by
 have ed:AW K cs [.fls (ns.map .int),.int k] R=runM 3 (FW K cs) [.fls (ns.map .int),.int k] R:=D8 rfl
 rw [ed]
 unfold FW
 have gl:AN [.fls (ns.map Dt.int)]=some (.int ns.length):=by rw [Ue,List.length_map]
 have p10:gI SF (fun i j=>i ^ j.toNat) (.int 10) (.int 18)=some (.int (10 ^ 18)):=by
  rw [E1,if_pos (by decide)]
  rfl
 by_cases h:(k:Int) < (ns.length:Int)
 ·obtain ⟨x,hx,_⟩:=Jk (xs:=ns) (i:=(k:Int)) (by omega) h
  have hat:atI (ns.map Dt.int) (k:Int)=some (.int x):=by rw [II,hx]; rfl
  refine ⟨⟨x,k,decide ((10:Int) ^ 18≤x)⟩,?_,rfl⟩
  simp! [gl,h,decide_true,hat,p10]
  rfl
 ·obtain ⟨ys,hy⟩:=UH Dt.int ns none (some 63)
  have gs:Mr [.lst (ys.map Dt.int)]=some (.int ys.sum):=by
   show (F2 (ys.map Dt.int)).map _=_
   rw [Fh]
   rfl
  have e1:gI EC (· * ·) (.int 7) (.int (k:Int))=some (.int (7 * (k:Int))):=Gy (by omega)
  have e2:∀ i:Int,gI EC (· * ·) (.int i) (.int (48271 + 7 * (k:Int)))=some (.int (i * (48271 + 7 * (k:Int)))):=fun i=>Gy (by omega)
  refine ⟨⟨(ys.sum * (48271 + 7 * (k:Int))).fmod 1000003,k,decide ((10:Int) ^ 18≤(ys.sum * (48271 + 7 * (k:Int))).fmod 1000003)⟩,?_,rfl⟩
  simp! [gl,h,decide_false,hy,gs,e1,e2,Jh (by decide:(0:Int) < 1000003),p10]
  rfl
structure At (R R':List Cell) (j:Nat) (b b':Bx) (k:Nat):Prop where
 VP:R[j]? = some (F4 b)
 eq:R'=R.set j (F4 b')
 le:b.n≤b'.n
 up:b'.n≤b.n + k
theorem Iu{α:Type}{R:List α}{j:Nat}{x:α}(h:R[j]? = some x):j < R.length:=by
 rcases Nat.lt_or_ge j R.length with z | z
 ·exact z
 ·rw [List.getElem?_eq_none z] at h; cases h
theorem At.E3{R R':List Cell}{j k:Nat}{b b':Bx}(h:At R R' j b b' k):R'[j]? = some (F4 b'):=by rw [h.eq]; exact List.getElem?_set_self (Iu h.VP)
theorem At.len{R R':List Cell}{j k:Nat}{b b':Bx}(h:At R R' j b b' k):R'.length=R.length:=by rw [h.eq,List.length_set]
theorem At.trans{R R' R'':List Cell}{j k m:Nat}{b b' b'':Bx}(h:At R R' j b b' k)(h':At R' R'' j b' b'' m):At R R'' j b b'' (k + m):=
 ⟨h.VP,by rw [h'.eq,h.eq,List.set_set],Nat.le_trans h.le h'.le,by have:=h.up; have:=h'.up; omega⟩
theorem At.mono{R R':List Cell}{j k m:Nat}{b b':Bx}(h:At R R' j b b' k)(hm:k≤m):At R R' j b b' m:=⟨h.VP,h.eq,h.le,by have:=h.up; omega⟩
theorem At.refl{R:List Cell}{j:Nat}{b:Bx}(h:R[j]? = some (F4 b)):At R R j b b 0:=⟨h,by
 refine (List.ext_getElem? fun i=>?_).symm
 by_cases e:j=i
 ·rw [← e,List.getElem?_set_self (Iu h),h]
 ·exact List.getElem?_set_ne e,Nat.le_refl _,Nat.le_refl _⟩
theorem At.ne{R R':List Cell}{j k i:Nat}{b b':Bx}(h:At R R' j b b' k)(hi:i≠j):R'[i]? = R[i]?:=by rw [h.eq]; exact List.getElem?_set_ne fun e=>hi e.symm
theorem Dv{R:List Cell}{j:Nat}{b:Bx}(hb:R[j]? = some (F4 b))(hn:b.n≤1000000000){s:Int}(h1:1≤s)(h2:s < 2 ^ 40):
  ∃ (v:Int) (R':List Cell) (b':Bx),Ai K cs [.ad j,.int s] R=.ok (.int v) R'∧0≤v∧v < s∧At R R' j b b' 1:=by
 obtain ⟨v,b',e,v0,v1,n1⟩:=YJ (K:=K) (cs:=cs) hb hn h1 h2
 exact ⟨v,_,b',e,v0,v1,hb,rfl,by omega,by omega⟩
end Lk13
namespace Lk13
open PySem L2 FD SX TL Nf
variable {K:PySem.W.Frag} {cs:Cs}
theorem Rn(l:Kn):(S l).cps.toList=l:=by simp [S]
theorem ZY(x:Str):S x.cps.toList=x:=by
 apply ext_tl
 simp [S,TL.tl]
def sD(l:Kn):Dt:=.str (S l)
def sg(x:String):Kn:=(Str.ofString x).cps.toList
theorem ZZ(x:String):Dt.str (Str.ofString x)=sD (sg x):=by unfold sD sg; rw [ZY]
theorem Jl(x:String):Str.ofString x=S (sg x):=by unfold sg; rw [ZY]
structure Nm (k:Kn):Prop where
 ne:k≠[]
 le:k.length≤30
 ch:∀ c∈k,c < 128
def nmB(k:Kn):Bool:=decide (k≠[]) && decide (k.length≤30) && k.all fun c=>decide (c < 128)
theorem XD{k:Kn}(h:nmB k=true):Nm k:=by
 unfold nmB at h
 rw [Bool.and_eq_true,Bool.and_eq_true,decide_eq_true_eq,decide_eq_true_eq,List.all_eq_true] at h
 exact ⟨h.1.1,h.1.2,fun c hc=>of_decide_eq_true (h.2 c hc)⟩
theorem U2{a b:Kn}(h:a.length + b.length≤16777216):AJ (.str (S a)) (.str (S b))=some (.str (S (a ++ b))):=by
 rw [Ug,S_len,S_len,if_pos h,S_cat]
theorem g_ix{a:Kn}{i:Int}{c:Nat}(h:a.length≤16777216)(hc:atI a i=some c):A4 (.str (S a)) (.int i)=some (.str (S [c])):=by
 rw [Rl,S_len,if_pos h,Rn,hc]
 rfl
theorem UM{xs:Kn}{i:Int}(h0:0≤i)(h1:i < (xs.length:Int))(hl:xs.length≤1000):∃ c∈xs,A4 (.str (S xs)) (.int i)=some (.str (S [c])):=by
 obtain ⟨c,hc,hm⟩:=Jk h0 h1
 exact ⟨c,List.mem_of_getElem? hm,g_ix (by omega) hc⟩
theorem QM{xs:List Kn}{i:Int}(h0:0≤i)(h1:i < (xs.length:Int)):∃ z∈xs,atI (xs.map sD) i=some (.str (S z)):=by
 obtain ⟨z,hz,hm⟩:=Jk h0 h1
 exact ⟨z,List.mem_of_getElem? hm,by rw [II,hz]; rfl⟩
def Mw:Kn:=sg "abcdefghijklmnopqrstuvwxyz"
def decS:Kn:=sg "0123456789."
def UP:Kn:=Mw ++ decS
theorem Rq:Mw.length=26:=by decide
theorem R6:UP.length=37:=by decide
theorem W6:∀ c∈UP,c < 128:=by decide
theorem WS:∀ c∈Mw,c < 128:=by decide
def wds:List Kn:=["b","a","a.2","ab","cut","a.3","m1","z.9z"].map sg
theorem ai:[Dt.str "b",Dt.str "a",Dt.str "a.2",Dt.str "ab",Dt.str "cut",Dt.str "a.3",Dt.str "m1",Dt.str "z.9z"]=wds.map sD:=by
 simp only [wds,List.map_cons,List.map_nil]
 repeat' rw [← ZZ]
theorem YZ:∀ z∈wds,nmB z=true:=by decide +kernel
theorem G4(n:Nat):(Ib 0 n).length=n:=GO 0 n
theorem MN{j:Nat}{d0:Option Lo}:∀ (ds:List Dt) (z:Kn) (x:Option Lo) (R:List Cell) (b:Bx),R[j]? = some (F4 b)→b.n + ds.length≤1000000000→z.length + ds.length≤1000→∃ (t:Kn) (x':Option Lo) (R':List Cell) (b':Bx),At R R' j b b' ds.length∧t.length=ds.length∧(∀ c∈t,c∈UP) ∧
  BK (Ak 4) (Az 2 (FD.x2 (xP (Ab 2)) (FD.x2 (xP (FD.e2 (Ab 1) (eC (.str "0123456789.")) AJ)) (Am 5 (Ai K cs) (xP (Aa (Ab 0) (Aa (eC (.int 37)) Ah))) [0]) A4) AJ) [2,1]) ds [some (.sh (.ad j)),some (.sh (.str (S Mw))),some (.sh (.str (S z))),d0,x,some (.mh R)] =
   .ok .nx [some (.sh (.ad j)),some (.sh (.str (S Mw))),some (.sh (.str (S (z ++ t)))),d0,x',some (.mh R')]
 | [],z,x,R,b,hb,_,_=>⟨[],x,R,b,At.refl hb,rfl,(fun c h=>nomatch h),by rw [List.append_nil]; rfl⟩
 | d :: ds,z,x,R,b,hb,hn,hz=>by
  simp only [List.length_cons] at hn hz
  obtain ⟨v,R1,b1,t1,v0,v1,s1⟩:=Dv (K:=K) (cs:=cs) hb (by omega) (s:=37) (by decide) (by decide)
  obtain ⟨c,hc,hix⟩:=UM (xs:=UP) v0 (by rw [R6]; exact v1) (by rw [R6]; decide)
  have:=s1.up
  obtain ⟨t,x',R',b',s2,hl,ht,e⟩:=MN (j:=j) (d0:=d0) ds (z ++ [c]) (some (.sh d)) R1 b1 s1.E3 (by omega) (by rw [List.length_append,List.length_singleton]; omega)
  refine ⟨c :: t,x',R',b',?_,by rw [List.length_cons,hl]; rfl,?_,?_⟩
  ·rw [List.length_cons,Nat.add_comm]
   exact s1.trans s2
  ·intro y hy
   rcases List.mem_cons.mp hy with rfl | hy
   ·exact hc
   ·exact ht y hy
  ·rw [D3]
   have gs:AJ (.str (S Mw)) (.str (Str.ofString "0123456789."))=some (.str (S UP)):=by
    rw [Jl]
    exact U2 (by decide)
   have gc:AJ (.str (S z)) (.str (S [c]))=some (.str (S (z ++ [c]))):=U2 (by simp only [List.length_singleton]; omega)
   simp! [gs,t1,hix,gc]
   rw [show z ++ c :: t=z ++ [c] ++ t by simp]
   exact e
theorem Yw{R:List Cell}{j:Nat}{b:Bx}(hb:R[j]? = some (F4 b))(hn:b.n≤900000000):
  ∃ (z:Kn) (R':List Cell) (b':Bx),C0 K cs [.ad j] R=.ok (.str (S z)) R'∧Nm z∧At R R' j b b' 20:=by
 have ed:C0 K cs [.ad j] R=runM 5 (EU K cs) [.ad j] R:=D8 rfl
 rw [ed]
 unfold EU
 obtain ⟨v,R1,b1,t1,v0,v1,s1⟩:=Dv (K:=K) (cs:=cs) hb (by omega) (s:=3) (by decide) (by decide)
 have u1:=s1.up
 by_cases hv:0 < v
 ·obtain ⟨w,R2,b2,t2,w0,w1,s2⟩:=Dv (K:=K) (cs:=cs) s1.E3 (by omega) (s:=8) (by decide) (by decide)
  obtain ⟨z,hz,hix⟩:=QM (xs:=wds) w0 w1
  rw [← ai] at hix
  refine ⟨z,R2,b2,?_,XD (YZ z hz),(s1.trans s2).mono (by decide)⟩
  simp! [t1,hv,decide_true,t2,hix]
 ·obtain ⟨w,R2,b2,t2,w0,w1,s2⟩:=Dv (K:=K) (cs:=cs) s1.E3 (by omega) (s:=26) (by decide) (by decide)
  have u2:=s2.up
  obtain ⟨c,hc,hix⟩:=UM (xs:=Mw) w0 (by rw [Rq]; exact w1) (by rw [Rq]; decide)
  obtain ⟨y,R3,b3,t3,y0,y1,s3⟩:=Dv (K:=K) (cs:=cs) s2.E3 (by omega) (s:=4) (by decide) (by decide)
  have u3:=s3.up
  obtain ⟨x,R4,b4,t4,x0,x1,s4⟩:=Dv (K:=K) (cs:=cs) s3.E3 (by omega) (s:=8) (by decide) (by decide)
  have u4:=s4.up
  obtain ⟨q,hq,q0,q1⟩:∃ q:Int,q=(if x=5 then 13 else y)∧0≤q∧q≤13:=by
   refine ⟨_,rfl,?_,?_⟩ <;> split <;> omega
  obtain ⟨t,x',R5,b5,s5,hl,ht,e⟩:=MN (K:=K) (cs:=cs) (d0:=some (.sh (.int q))) (Ib 0 q.toNat) [c] none R4 b4 s4.E3 (by rw [G4]; omega) (by rw [G4]; simp only [List.length_singleton]; omega)
  rw [G4] at hl s5
  refine ⟨[c] ++ t,R5,b5,?_,?_,((((s1.trans s2).trans s3).trans s4).trans s5).mono (by omega)⟩
  ·have hs:Dz q=true:=decide_eq_true (by omega)
   have hlet:Str.ofString "abcdefghijklmnopqrstuvwxyz" = S Mw:=Jl _
   have hf:∀ ρ:FD.Env,ρ=[some (.sh (.ad j)),some (.sh (.str (S Mw))),some (.sh (.str (S [c]))),some (.sh (.int q)),none,some (.mh R4)]→Bj (Ak 4) (BP (Aa (Ab 3) Ah)) [] (Az 2 (FD.x2 (xP (Ab 2)) (FD.x2 (xP (FD.e2 (Ab 1) (eC (.str "0123456789.")) AJ)) (Am 5 (Ai K cs) (xP (Aa (Ab 0) (Aa (eC (.int 37)) Ah))) [0]) A4) AJ) [2,1]) ρ=.ok .nx [some (.sh (.ad j)),some (.sh (.str (S Mw))),some (.sh (.str (S ([c] ++ t)))),some (.sh (.int q)),x',some (.mh R5)]:=fun ρ hρ=>by
    subst hρ
    rw [CV]
    simp! [Hn,hs,e]
   by_cases h5:x=5
   ·rw [if_pos h5] at hq
    subst hq h5
    simp! [hlet,t1,hv,decide_false,t2,hix,t3,t4,beq_self_eq_true,hf]
   ·rw [if_neg h5] at hq
    subst hq
    have h5':(x == (5:Int))=false:=beq_eq_false_iff_ne.mpr h5
    simp! [hlet,t1,hv,decide_false,t2,hix,t3,t4,h5',hf]
  ·refine ⟨by simp,by simp only [List.length_append,List.length_singleton]; omega,fun y hy=>?_⟩
   rcases List.mem_append.mp hy with hy | hy
   ·rw [List.mem_singleton.mp hy]; exact WS c hc
   ·exact W6 y (ht y hy)
theorem L7{q:Int}(h0:0≤q)(h1:q≤100000):Dz q=true:=decide_eq_true (by omega)
theorem Wk:∀ k:Nat,k < 14→∃ t:Kn,G9 [.int (k:Int)]=some (.str (S t))∧t.length≤2∧∀ c∈t,c < 128:=by
 have h:∀ k:Nat,k < 14→((Int.natAbs (k:Int)).log2 < 1920)∧((sg (toString (k:Int))).length≤2∧∀ c∈sg (toString (k:Int)),c < 128):=by decide +kernel
 intro k hk
 obtain ⟨h1,h2,h3⟩:=h k hk
 refine ⟨sg (toString (k:Int)),?_,h2,h3⟩
 rw [Vw,if_pos h1]
 show some (Dt.str (Str.ofString _))=_
 rw [Jl]
theorem Wn(N:List Kn):(N.map sD).all Dt.flat=true:=by
 rw [List.all_map]
 exact List.all_eq_true.mpr fun _ _=>rfl
theorem Iv(k:Kn)(N:List Kn):Hu (.str (S k)) (.lst (N.map sD))=some (XF (.str (S k)) (N.map sD)):=by
 show ((some (N.map sD)).bind fun ds=>if (Dt.str (S k)).flat=true∧ds.all Dt.flat=true then some (XF (.str (S k)) ds) else none)=_
 rw [Option.bind_some,if_pos ⟨rfl,Wn N⟩]
theorem Lx{N:List Kn}:∀ (l:List Nat) (x:Option Lo),(∀ k∈l,k < 14) →
  (∃ x',BK (Ak 1) (BV (FD.t2 (FD.e2 (eC (.str "n")) (eB G9 (Aa (Ab 1) Ah)) AJ) (Ab 0) (CY Hu)) (Ax (FD.e2 (eC (.str "n")) (eB G9 (Aa (Ab 1) Ah)) AJ) []) Ar) (l.map fun k:Nat=>.int (k:Int)) [some (.sh (.lst (N.map sD))),x]=.ok .nx [some (.sh (.lst (N.map sD))),x']) ∨
  ∃ z ρ',Nm z∧BK (Ak 1) (BV (FD.t2 (FD.e2 (eC (.str "n")) (eB G9 (Aa (Ab 1) Ah)) AJ) (Ab 0) (CY Hu)) (Ax (FD.e2 (eC (.str "n")) (eB G9 (Aa (Ab 1) Ah)) AJ) []) Ar) (l.map fun k:Nat=>.int (k:Int)) [some (.sh (.lst (N.map sD))),x]=.ok (.rt (.str (S z))) ρ'
 | [],x,_=>.inl ⟨x,rfl⟩
 | k :: l,x,h=>by
  obtain ⟨t,ht,tl,tc⟩:=Wk k (h k List.mem_cons_self)
  have hn:Str.ofString "n" = S (sg "n"):=Jl _
  have l1:(sg "n").length=1:=by decide +kernel
  have gc:AJ (.str (Str.ofString "n")) (.str (S t))=some (.str (S (sg "n" ++ t))):=by
   rw [hn]
   exact U2 (by omega)
  rw [List.map_cons,D3]
  cases hi:XF (.str (S (sg "n" ++ t))) (N.map sD) with
  | true=>
   rcases Lx (N:=N) l (some (.sh (.int k))) (fun k hk=>h k (List.mem_cons_of_mem _ hk)) with ⟨x',e⟩ | ⟨z,ρ',hz,e⟩
   ·refine .inl ⟨x',?_⟩
    simp! [ht,gc,Iv,hi,e]
   ·refine .inr ⟨z,ρ',hz,?_⟩
    simp! [ht,gc,Iv,hi,e]
  | false=>
   refine .inr ⟨sg "n" ++ t,[some (.sh (.lst (N.map sD))),some (.sh (.int k))],⟨by simp [show sg "n" = [110] by decide +kernel],?_,fun c hc=>?_⟩,?_⟩
   ·rw [List.length_append,l1]; omega
   ·rcases List.mem_append.mp hc with hc | hc
    ·rw [show sg "n" = [110] by decide +kernel,List.mem_singleton] at hc; omega
    ·exact tc c hc
   ·simp! [ht,gc,Iv,hi]
theorem Xa{N:List Kn}(hl:N.length≤12):∃ z,Nm z∧CF K cs [.lst (N.map sD)]=.ok (.str (S z)):=by
 have ed:CF K cs [.lst (N.map sD)]=AR 2 (Eb K cs) [.lst (N.map sD)]:=A6 rfl
 rw [ed]
 unfold Eb
 have gl:AN [.lst (N.map sD)]=some (.int (N.length:Nat)):=by rw [DT,List.length_map]
 have hs:Dz ((N.length:Int) + 1)=true:=L7 (by omega) (by omega)
 have et:((N.length:Int) + 1).toNat=N.length + 1:=by omega
 have er:Ib 0 (N.length + 1)=(List.range (N.length + 1)).map fun k:Nat=>.int (k:Int):=by
  unfold Ib
  exact List.map_congr_left fun k _=>by rw [Int.zero_add]
 have hq:Bj (Ak 1) (BP (Aa (e2 (eB AN (Aa (Ab 0) Ah)) (eC (.int 1)) AJ) Ah)) [] (BV (FD.t2 (FD.e2 (eC (.str "n")) (eB G9 (Aa (Ab 1) Ah)) AJ) (Ab 0) (CY Hu)) (Ax (FD.e2 (eC (.str "n")) (eB G9 (Aa (Ab 1) Ah)) AJ) []) Ar) [some (.sh (.lst (N.map sD))),none]=BK (Ak 1) (BV (FD.t2 (FD.e2 (eC (.str "n")) (eB G9 (Aa (Ab 1) Ah)) AJ) (Ab 0) (CY Hu)) (Ax (FD.e2 (eC (.str "n")) (eB G9 (Aa (Ab 1) Ah)) AJ) []) Ar) ((List.range (N.length + 1)).map fun k:Nat=>.int (k:Int)) [some (.sh (.lst (N.map sD))),none]:=by
  rw [CV]
  simp! [gl,Hn,hs,et,er]
 rcases Lx (N:=N) (List.range (N.length + 1)) none (fun k hk=>by have:=List.mem_range.mp hk; omega) with ⟨x',e⟩ | ⟨z,ρ',hz,e⟩
 ·refine ⟨sg "n",XD (by decide +kernel),?_⟩
  rw [e] at hq
  simp! [hq]
  rw [Jl]
 ·refine ⟨z,hz,?_⟩
  rw [e] at hq
  simp! [hq]
theorem LU{j:Nat}{d1:Option Lo}:∀ (ds:List Dt) (N:List Kn) (x y:Option Lo) (R:List Cell) (b:Bx),R[j]? = some (F4 b)→b.n + 20 * ds.length≤900000000→N.length + ds.length≤12→(∀ z∈N,Nm z)→∃ (N':List Kn) (x' y':Option Lo) (R':List Cell) (b':Bx),At R R' j b b' (20 * ds.length)∧N'.length=N.length + ds.length∧(∀ z∈N',Nm z) ∧
  BK (Ak 3) (An (Az 4 (Am 5 (C0 K cs) (xP (Aa (Ab 0) Ah)) [0]) [])
  (An (BV (FD.t2 (Ab 4) (Ab 2) Hu) (B2 4 (Ao (CF K cs) (Aa (Ab 2) Ah)) [2]) Ar)
  (BR 2 (Ab 4) [4]))) ds [some (.sh (.ad j)),d1,some (.ol (N.map sD)),x,y,some (.mh R)]=.ok .nx [some (.sh (.ad j)),d1,some (.ol (N'.map sD)),x',y',some (.mh R')]
 | [],N,x,y,R,b,hb,_,_,hN=>⟨N,x,y,R,b,At.refl hb,rfl,hN,rfl⟩
 | d :: ds,N,x,y,R,b,hb,hn,hz,hN=>by
  simp only [List.length_cons] at hn hz
  obtain ⟨z,R1,b1,t1,hzn,s1⟩:=Yw (K:=K) (cs:=cs) hb (by omega)
  have u1:=s1.up
  obtain ⟨z',hz',t2⟩:=Xa (K:=K) (cs:=cs) (N:=N) (by omega)
  obtain ⟨q,hq,hqn⟩:∃ q:Kn,q=(if XF (.str (S z)) (N.map sD)=true then z' else z)∧Nm q:=⟨_,rfl,by split <;> assumption⟩
  obtain ⟨N',x',y',R',b',s2,hl,hN',e⟩:=LU (j:=j) (d1:=d1) ds (N ++ [q]) (some (.sh d)) (some (.sh (.str (S q)))) R1 b1 s1.E3 (by omega) (by rw [List.length_append,List.length_singleton]; omega) (fun w hw=>by
   rcases List.mem_append.mp hw with hw | hw
   ·exact hN w hw
   ·rw [List.mem_singleton.mp hw]; exact hqn)
  refine ⟨N',x',y',R',b',(s1.trans s2).mono (by rw [List.length_cons]; omega),by rw [hl,List.length_append,List.length_singleton,List.length_cons]; omega,hN',?_⟩
  rw [D3]
  have em:(N.map sD) ++ [Dt.str (S q)]=(N ++ [q]).map sD:=by rw [List.map_append]; rfl
  have hlen:(N.map sD).length < 16777216:=by rw [List.length_map]; omega
  cases hi:XF (.str (S z)) (N.map sD) with
  | true=>
   rw [hi,if_pos rfl] at hq
   subst hq
   simp! [t1,Iv,hi,t2,hlen,em,e]
  | false=>
   rw [hi,if_neg (by decide)] at hq
   subst hq
   simp! [t1,Iv,hi,hlen,em,e]
theorem Rg{R:List Cell}{j:Nat}{b:Bx}(hb:R[j]? = some (F4 b))(hn:b.n≤800000000){k:Nat}(hk:k≤12):
  ∃ (N:List Kn) (R':List Cell) (b':Bx),Di K cs [.ad j,.int k] R=.ok (.lst (N.map sD)) R'∧N.length=k∧(∀ z∈N,Nm z)∧At R R' j b b' 240:=by
 have ed:Di K cs [.ad j,.int k] R=runM 5 (Ej K cs) [.ad j,.int k] R:=D8 rfl
 rw [ed]
 unfold Ej
 obtain ⟨N,x,y,R',b',s1,hl,hN,e⟩:=LU (K:=K) (cs:=cs) (d1:=some (.sh (.int k))) (Ib 0 k) [] none none R b hb (by rw [G4]; omega) (by rw [G4]; simp only [List.length_nil]; omega) (fun z hz=>nomatch hz)
 rw [G4] at s1 hl
 have hs:Dz (k:Int)=true:=decide_eq_true (by omega)
 have ek:((k:Int)).toNat=k:=by omega
 refine ⟨N,R',b',?_,by rw [hl]; simp,hN,s1.mono (by omega)⟩
 have hf:Bj (Ak 3) (BP (Aa (Ab 1) Ah)) [] (An (Az 4 (Am 5 (C0 K cs) (xP (Aa (Ab 0) Ah)) [0]) [])
  (An (BV (FD.t2 (Ab 4) (Ab 2) Hu) (B2 4 (Ao (CF K cs) (Aa (Ab 2) Ah)) [2]) Ar)
  (BR 2 (Ab 4) [4]))) [some (.sh (.ad j)),some (.sh (.int k)),some (.ol []),none,none,some (.mh R)]=.ok .nx [some (.sh (.ad j)),some (.sh (.int k)),some (.ol (N.map sD)),x,y,some (.mh R')]:=by
  rw [CV]
  simp! [Hn,hs,ek]
  exact e
 simp! [hf,FD.GA]
def kN(k:Kn):Key:=.inr (S k)
theorem Og{a b:Kn}(h:kN a=kN b):a=b:=Nf.S_inj (Sum.inr.inj h)
def By(r:Row):List Key:=r.map fun p=>kN p.1
def Cd(r:Row):List Dt:=r.map fun p=>.int p.2
def rD(r:Row):Dt:=.dic (By r) (Cd r)
def M3(p:Kn × Int):Dt:=.tup [.str (S p.1),.int p.2]
def fD(r:Row):Dt:=.ptp (r.map M3)
def tT(r:Row):Dt:=.tup [.int r.length,.int (sm r),fD r]
def TC(r:Row):Prop:=∀ p∈r,Nm p.1
theorem IT{r:Row}{k:Kn}:kN k∈By r ↔ k∈ks r:=by
 unfold By ks
 constructor
 ·intro h
  obtain ⟨p,hp,e⟩:=List.mem_map.mp h
  exact List.mem_map.mpr ⟨p,hp,Og e⟩
 ·intro h
  obtain ⟨p,hp,rfl⟩:=List.mem_map.mp h
  exact List.mem_map.mpr ⟨p,hp,rfl⟩
theorem atD(r:Row)(k:Kn):OG (By r) (Cd r) (kN k)=(gt r k).map .int:=by
 induction r with
 | nil=>rfl
 | cons p r ih=>
  show OG (kN p.1 :: By r) (.int p.2 :: Cd r) (kN k)=_
  unfold OG gt
  by_cases e:k=p.1
  ·rw [if_pos e,if_pos (by rw [e])]; rfl
  ·rw [if_neg e,if_neg (fun h=>e (Og h).symm),ih]
theorem VA(r:Row)(k:Kn):Cc (rD r) (.str (S k))=(gt r k).map .int:=atD r k
theorem gIn(r:Row)(k:Kn):Ma (.str (S k)) (rD r)=some (decide (k∈ks r)):=by
 show some (decide (kN k∈By r))=_
 rw [decide_eq_decide.mpr IT]
theorem Iz(r:Row):(By r).map Iq=(ks r).map sD:=by
 unfold By ks
 rw [List.map_map,List.map_map]
 rfl
theorem items(r:Row):Qs (rD r)=some (r.map M3):=by
 show some (Vp (By r) (Cd r))=_
 unfold Vp By Cd
 rw [List.zip_map',List.map_map]
 rfl
def Cq(r:Row)(k:Kn)(x:Int):Row:=if k∈ks r then r.map fun p=>if p.1=k then (p.1,x) else p else r ++ [(k,x)]
theorem Nl(r:Row)(k:Kn)(x:Int):D7 (By r) (kN k)=By (Cq r k x):=by
 unfold D7 Cq
 by_cases h:k∈ks r
 ·rw [if_pos (IT.mpr h),if_pos h]
  unfold By
  rw [List.map_map]
  refine List.map_congr_left fun p _=>?_
  simp only [Function.comp]
  split <;> rfl
 ·rw [if_neg fun z=>h (IT.mp z),if_neg h]
  unfold By
  rw [List.map_append]
  rfl
theorem Ry:∀ (r:Row) (k:Kn) (x:Int),LF (By r) (Cd r) (kN k) (.int x)=Cd (r.map fun p=>if p.1=k then (p.1,x) else p)
 | [],k,x=>rfl
 | p :: r,k,x=>by
  show LF (kN p.1 :: By r) (.int p.2 :: Cd r) (kN k) (.int x)=_
  unfold LF
  rw [Ry r k x]
  by_cases e:p.1=k
  ·rw [if_pos (by rw [e])]
   simp only [List.map_cons,if_pos e]
   rfl
  ·rw [if_neg fun h=>e (Og h)]
   simp only [List.map_cons,if_neg e]
   rfl
theorem N4(r:Row)(k:Kn)(x:Int):D6 (By r) (Cd r) (kN k) (.int x)=Cd (Cq r k x):=by
 unfold D6 Cq
 by_cases h:k∈ks r
 ·rw [if_pos (IT.mpr h),if_pos h,Ry]
 ·rw [if_neg fun z=>h (IT.mp z),if_neg h]
  unfold Cd
  rw [List.map_append]
  rfl
theorem NL(r:Row)(k:Kn)(x:Int):ks (Cq r k x)=if k∈ks r then ks r else ks r ++ [k]:=by
 unfold Cq
 by_cases h:k∈ks r
 ·rw [if_pos h,if_pos h]
  unfold ks
  rw [List.map_map]
  refine List.map_congr_left fun p _=>?_
  simp only [Function.comp]
  split <;> rfl
 ·rw [if_neg h,if_neg h]
  unfold ks
  rw [List.map_append]
  rfl
theorem HJ(p:Kn × Int)(r:Row)(j:Kn):gt (p :: r) j=if j=p.1 then some p.2 else gt r j:=rfl
theorem M0{k:Kn}{x:Int}{j:Kn}(h:j≠k):∀ r:Row,gt (r.map fun p=>if p.1=k then (p.1,x) else p) j=gt r j
 | []=>rfl
 | p :: r=>by
  rw [List.map_cons,HJ,HJ,M0 h r]
  by_cases e:p.1=k
  ·rw [if_pos e]
   have:¬ j=p.1:=fun z=>h (z.trans e)
   simp only [if_neg this]
  ·rw [if_neg e]
theorem M9{k:Kn}{x:Int}:∀ {r:Row},k∈ks r→gt (r.map fun p=>if p.1=k then (p.1,x) else p) k=some x
 | [],h=>nomatch h
 | p :: r,h=>by
  rw [List.map_cons,HJ]
  by_cases e:p.1=k
  ·rw [if_pos e]
   simp only [if_pos e.symm]
  ·rw [if_neg e,if_neg fun z=>e z.symm]
   refine M9 ?_
   rcases List.mem_cons.mp h with z | z
   ·exact absurd z.symm e
   ·exact z
theorem T6{k:Kn}{x:Int}{j:Kn}:∀ {r:Row},k∉ks r→gt (r ++ [(k,x)]) j=if j=k then some x else gt r j
 | [],_=>rfl
 | p :: r,h=>by
  have h1:¬ k=p.1:=fun z=>h (by rw [z]; exact List.mem_cons_self)
  rw [List.cons_append,HJ,HJ,T6 fun z=>h (List.mem_cons_of_mem _ z)]
  by_cases e2:j=p.1
  ·rw [if_pos e2,if_neg (fun z=>h1 (z.symm.trans e2)),if_pos e2]
  ·rw [if_neg e2,if_neg e2]
theorem NA(r:Row)(k:Kn)(x:Int)(j:Kn):gt (Cq r k x) j=if j=k then some x else gt r j:=by
 unfold Cq
 by_cases h:k∈ks r
 ·rw [if_pos h]
  by_cases e:j=k
  ·rw [if_pos e,e,M9 h]
  ·rw [if_neg e,M0 e]
 ·rw [if_neg h,T6 h]
theorem Zd{r:Row}(h:(ks r).Nodup)(k:Kn)(x:Int):(ks (Cq r k x)).Nodup:=by
 rw [NL]
 split
 ·exact h
 ·rename_i hn
  exact List.nodup_append.mpr ⟨h,List.nodup_cons.mpr ⟨(fun z=>nomatch z),List.nodup_nil⟩,fun a ha b hb e=>hn (by rw [← List.mem_singleton.mp hb,← e]; exact ha)⟩
theorem Js(r:Row)(k:Kn)(x:Int):Cq r k x≠[]:=by
 intro h
 have:k∈ks (Cq r k x):=by
  rw [NL]
  split
  ·assumption
  ·exact List.mem_append_right _ (List.mem_singleton.mpr rfl)
 rw [h] at this
 cases this
theorem Xf{r:Row}{k:Kn}{x:Int}{j:Kn}(h:j∈ks (Cq r k x)):j∈ks r∨j=k:=by
 rw [NL] at h
 split at h
 ·exact .inl h
 ·rcases List.mem_append.mp h with z | z
  ·exact .inl z
  ·exact .inr (List.mem_singleton.mp z)
theorem YT{r:Row}{k:Kn}{x:Int}{j:Kn}(h:j∈ks r∨j=k):j∈ks (Cq r k x):=by
 rw [NL]
 by_cases hk:k∈ks r
 ·rw [if_pos hk]
  rcases h with h | rfl
  ·exact h
  ·exact hk
 ·rw [if_neg hk]
  rcases h with h | rfl
  ·exact List.mem_append_left _ h
  ·exact List.mem_append_right _ (List.mem_singleton.mpr rfl)
theorem MS{α:Type}[BEq α][LawfulBEq α]:∀ {l m:List α},l.Nodup→(∀ x∈l,x∈m)→l.length≤m.length
 | [],m,_,_=>Nat.zero_le _
 | a :: l,m,n,h=>by
  obtain ⟨n1,n2⟩:=List.nodup_cons.mp n
  have ha:=h a List.mem_cons_self
  have i:=MS (l:=l) (m:=m.erase a) n2 fun x hx=>by
   have:x≠a:=fun e=>n1 (e ▸ hx)
   exact (List.mem_erase_of_ne this).mpr (h x (List.mem_cons_of_mem _ hx))
  rw [List.length_erase_of_mem ha] at i
  have:0 < m.length:=List.length_pos_of_mem ha
  rw [List.length_cons]
  omega
structure Gr (N:List Kn) (r:Row):Prop where
 nd:(ks r).Nodup
 sub:∀ k∈ks r,k∈N
theorem Gr.len{N:List Kn}{r:Row}(h:Gr N r):r.length≤N.length:=by
 have:=MS h.nd h.sub
 unfold ks at this
 rw [List.length_map] at this
 exact this
theorem Gr.nil(N:List Kn):Gr N []:=⟨List.nodup_nil,fun k h=>nomatch h⟩
theorem Gr.put{N:List Kn}{r:Row}(h:Gr N r){k:Kn}(hk:k∈N)(x:Int):Gr N (Cq r k x):=⟨Zd h.nd k x,fun j hj=>by
 rcases Xf hj with z | rfl
 ·exact h.sub j z
 ·exact hk⟩
theorem GZ(r:Row):(By r).length=r.length:=List.length_map ..
theorem X8{i:Nat}{fk:FD.Env→Out Dt}{f:FD.Env→XO Dt}{lk:List Nat}{ρ ρ1:FD.Env}{r:Row}{k:Kn}{x:Int}(hf:f ρ=.ok (.int x) ρ1)(hi:ρ1[i]? = some (some (.od (By r) (Cd r))))(hk:fk ρ1=.ok (.str (S k)))(hl:r.length < 16777216):
  B9 i fk f lk ρ=.ok .nx (ρ1.set i (some (.od (By (Cq r k x)) (Cd (Cq r k x))))):=by
 have e:AI (.int x) lk ρ1=ρ1:=DN ..
 unfold B9
 rw [hf]
 show (match (AI (.int x) lk ρ1)[i]? with
 | some (some (.od ks ds))=>F8 (fk (AI (.int x) lk ρ1)) (AI (.int x) lk ρ1) fun k=>(match keyD k with
  | some k=>if ks.length < 16777216 then .ok .nx ((AI (.int x) lk ρ1).set i (some (.od (D7 ks k) (D6 ks ds k (.int x))))) else .bad
  | none=>.bad)
 | _=>.bad)=_
 rw [e,hi]
 show (F8 (fk ρ1) ρ1 fun k=>(match keyD k with
  | some k=>if (By r).length < 16777216 then .ok .nx (ρ1.set i (some (.od (D7 (By r) k) (D6 (By r) (Cd r) k (.int x))))) else .bad
  | none=>.bad))=_
 rw [hk,Df]
 show (if (By r).length < 16777216 then SOut.ok .nx (ρ1.set i (some (.od (D7 (By r) (kN k)) (D6 (By r) (Cd r) (kN k) (.int x))))) else .bad)=_
 rw [GZ,if_pos hl,Nl r k x,N4]
theorem Yz{i:Nat}{fk:FD.Env→Out Dt}{f:FD.Env→Out Dt}{lk:List Nat}{ρ:FD.Env}{r:Row}{k:Kn}{x:Int}(hf:f ρ=.ok (.int x))(hi:ρ[i]? = some (some (.od (By r) (Cd r))))(hk:fk ρ=.ok (.str (S k)))(hl:r.length < 16777216):
  C7 i fk f lk ρ=.ok .nx (ρ.set i (some (.od (By (Cq r k x)) (Cd (Cq r k x))))):=by
 have e:AI (.int x) lk ρ=ρ:=DN ..
 unfold C7
 rw [hf,Df,e,hi]
 show (F8 (fk ρ) ρ fun k=>(match keyD k with
  | some k=>if (By r).length < 16777216 then .ok .nx (ρ.set i (some (.od (D7 (By r) k) (D6 (By r) (Cd r) k (.int x))))) else .bad
  | none=>.bad))=_
 rw [hk,Df]
 show (if (By r).length < 16777216 then SOut.ok .nx (ρ.set i (some (.od (D7 (By r) (kN k)) (D6 (By r) (Cd r) (kN k) (.int x))))) else .bad)=_
 rw [GZ,if_pos hl,Nl r k x,N4]
theorem NS{i:Nat}{u:Dt→FD.Env→Option FD.Env}{b:FD.Env→SOut}{ρ ρ':FD.Env}{r:Row}(hi:ρ[i]? = some (some (.sh (rD r))))(hl:frz [i] ρ=ρ)(h:BK u b ((ks r).map sD) ρ=.ok .nx ρ'):Gh i u b ρ=.ok .nx ρ':=by
 have e:Ca i ρ=.ok ((ks r).map sD):=by
  unfold Ca
  rw [hi]
  show Out.ok ((By r).map Iq)=_
  rw [Iz]
 unfold Gh
 rw [CV,e,Df,hl,h]
theorem WG{i:Nat}{u:Dt→FD.Env→Option FD.Env}{b:FD.Env→SOut}{ρ ρ':FD.Env}{d:Dt}{r:Row}(hi:ρ[i]? = some (some (.sh (rD r))))(hl:frz [i] ρ=ρ)(h:BK u b ((ks r).map sD) ρ=.ok (.rt d) ρ'):Gh i u b ρ=.ok (.rt d) ρ':=by
 have e:Ca i ρ=.ok ((ks r).map sD):=by
  unfold Ca
  rw [hi]
  show Out.ok ((By r).map Iq)=_
  rw [Iz]
 unfold Gh
 rw [CV,e,Df,hl,h]
def Cw(s:Int × Int):Dt:=.tup [.int s.1,.int s.2]
def spL:List (Int × Int):=[(3,0),(2,0),(7,0 - 3),(7,0 - 3),(20,0 - 10),(2000001,0 - 1000000),(4,10 ^ 20),(4,0 - 10 ^ 20)]
def Ki(s:Int × Int):Prop:=1≤s.1∧s.1≤2000001
theorem Yj:∀ s∈spL,Ki s:=by unfold Ki; decide
theorem T5{R:List Cell}{j:Nat}{b:Bx}(hb:R[j]? = some (F4 b))(hn:b.n≤900000000):
  ∃ (s:Int × Int) (R':List Cell) (b':Bx),CQ K cs [.ad j] R=.ok (Cw s) R'∧Ki s∧At R R' j b b' 1:=by
 have ed:CQ K cs [.ad j] R=runM 2 (DK K cs) [.ad j] R:=D8 rfl
 rw [ed]
 unfold DK
 obtain ⟨v,R1,b1,t1,v0,v1,s1⟩:=Dv (K:=K) (cs:=cs) hb (by omega) (s:=8) (by decide) (by decide)
 obtain ⟨s,hs,hm⟩:=Jk (xs:=spL) (i:=v) v0 v1
 have p20:gI SF (fun i j=>i ^ j.toNat) (.int 10) (.int 20)=some (.int (10 ^ 20)):=by
  rw [E1,if_pos (by decide)]
  rfl
 have hat:atI (spL.map Cw) v=some (Cw s):=by rw [II,hs]; rfl
 have hat:atI [.tup [.int 3,.int 0],.tup [.int 2,.int 0],.tup [.int 7,.int (0 - 3)],.tup [.int 7,.int (0 - 3)],.tup [.int 20,.int (0 - 10)],.tup [.int 2000001,.int (0 - 1000000)],.tup [.int 4,.int (10 ^ 20)],.tup [.int 4,.int (0 - 10 ^ 20)]] v=some (Cw s):=hat
 refine ⟨s,R1,b1,?_,Yj s (List.mem_of_getElem? hm),s1⟩
 simp! [p20,IC,t1,hat]
theorem Vg{α:Type}(f:α→Dt)(xs:List α)(lo hi:Option Int):∃ ys:List α,cutD (xs.map f) lo hi=ys.map f∧(∀ y∈ys,y∈xs)∧ys.length≤xs.length:=by
 unfold cutD
 refine ⟨(xs.drop (HT.sIx xs.length 0 lo)).take (HT.sIx xs.length xs.length hi - HT.sIx xs.length 0 lo),?_,fun y hy=>List.mem_of_mem_drop (List.mem_of_mem_take hy),?_⟩
 ·rw [List.length_map,List.map_take,List.map_drop]
 ·rw [List.length_take,List.length_drop]; omega
theorem Rf{N:List Kn}{s:Int × Int}{j:Nat}{fk:FD.Env→Out Dt}{R R':List Cell}{v:Int}{k:Kn}{r:Row}{d1 d3 x:Option Lo}(t:Ai K cs [.ad j,.int s.1] R=.ok (.int v) R')(g:Gr N r)(hl:N.length≤12)
  (hk:fk [some (.sh (.ad j)),d1,some (.sh (Cw s)),d3,some (.od (By r) (Cd r)),x,some (.mh R')]=.ok (.str (S k))):
  B9 4 fk (FD.x2 (Am 6 (Ai K cs) (xP (Aa (Ab 0) (Aa (FD.e2 (Ab 2) (eC (.int 0)) A4) Ah))) [0]) (xP (FD.e2 (Ab 2) (eC (.int 1)) A4)) AJ) [] [some (.sh (.ad j)),d1,some (.sh (Cw s)),d3,some (.od (By r) (Cd r)),x,some (.mh R)] =
   .ok .nx [some (.sh (.ad j)),d1,some (.sh (Cw s)),d3,some (.od (By (Cq r k (v + s.2))) (Cd (Cq r k (v + s.2)))),x,some (.mh R')]:=by
 refine X8 (ρ1:=[some (.sh (.ad j)),d1,some (.sh (Cw s)),d3,some (.od (By r) (Cd r)),x,some (.mh R')]) ?_ rfl hk (by have:=g.len; omega)
 unfold Cw
 simp! [t]
theorem KA{j:Nat}{N:List Kn}{s:Int × Int}(hs:Ki s)(hN:N.length≤12){d1 d3:Option Lo}:∀ (L:List Kn) (r:Row) (x:Option Lo) (R:List Cell) (b:Bx),(∀ k∈L,k∈N)→Gr N r→R[j]? = some (F4 b)→b.n + 2 * L.length≤900000000 →
  ∃ (r':Row) (x':Option Lo) (R':List Cell) (b':Bx),At R R' j b b' (2 * L.length)∧Gr N r' ∧
  BK (Ak 5) (Kf (FD.QH (Am 6 (Ai K cs) (xP (Aa (Ab 0) (Aa (eC (.int 2)) Ah))) [0]) (xP (eC (.int 0))) Fb) (B9 4 (Ab 5) (FD.x2 (Am 6 (Ai K cs) (xP (Aa (Ab 0) (Aa (FD.e2 (Ab 2) (eC (.int 0)) A4) Ah))) [0]) (xP (FD.e2 (Ab 2) (eC (.int 1)) A4)) AJ) []) Ar) (L.map sD) [some (.sh (.ad j)),d1,some (.sh (Cw s)),d3,some (.od (By r) (Cd r)),x,some (.mh R)] =
   .ok .nx [some (.sh (.ad j)),d1,some (.sh (Cw s)),d3,some (.od (By r') (Cd r')),x',some (.mh R')]
 | [],r,x,R,b,_,g,hb,_=>⟨r,x,R,b,At.refl hb,g,rfl⟩
 | k :: L,r,x,R,b,hL,g,hb,hn=>by
  simp only [List.length_cons] at hn
  obtain ⟨v,R1,b1,t1,v0,v1,s1⟩:=Dv (K:=K) (cs:=cs) hb (by omega) (s:=2) (by decide) (by decide)
  have u1:=s1.up
  have hL':∀ k∈L,k∈N:=fun z hz=>hL z (List.mem_cons_of_mem _ hz)
  by_cases hv:v=0
  ·subst hv
   obtain ⟨w,R2,b2,t2,w0,w1,s2⟩:=Dv (K:=K) (cs:=cs) s1.E3 (by omega) (s:=s.1) hs.1 (by have:=hs.2; omega)
   have u2:=s2.up
   obtain ⟨r',x',R',b',s3,g',e⟩:=KA hs hN (d1:=d1) (d3:=d3) L (Cq r k (w + s.2)) (some (.sh (sD k))) R2 b2 hL' (g.put (hL k List.mem_cons_self) _) s2.E3 (by omega)
   refine ⟨r',x',R',b',((s1.trans s2).trans s3).mono (by rw [List.length_cons]; omega),g',?_⟩
   have hp:=Rf (K:=K) (cs:=cs) (N:=N) (fk:=Ab 5) (k:=k) (d1:=d1) (d3:=d3) (x:=some (.sh (sD k))) t2 g hN rfl
   rw [List.map_cons,D3]
   simp! [t1,beq_self_eq_true,hp,e]
  ·have hv':(v == (0:Int))=false:=beq_eq_false_iff_ne.mpr hv
   obtain ⟨r',x',R',b',s3,g',e⟩:=KA hs hN (d1:=d1) (d3:=d3) L r (some (.sh (sD k))) R1 b1 hL' g s1.E3 (by omega)
   refine ⟨r',x',R',b',(s1.trans s3).mono (by rw [List.length_cons]; omega),g',?_⟩
   rw [List.map_cons,D3]
   simp! [t1,hv',e]
theorem XR{R:List Cell}{j:Nat}{b:Bx}{N:List Kn}{s:Int × Int}(hb:R[j]? = some (F4 b))(hn:b.n≤800000000)(hs:Ki s)(hN:N.length≤12)(hN0:N≠[]):
  ∃ (r:Row) (R':List Cell) (b':Bx),Cj K cs [.ad j,.lst (N.map sD),Cw s] R=.ok (rD r) R'∧Gr N r∧r≠[]∧At R R' j b b' 60:=by
 have ed:Cj K cs [.ad j,.lst (N.map sD),Cw s] R=runM 6 (FP K cs) [.ad j,.lst (N.map sD),Cw s] R:=D8 rfl
 rw [ed]
 unfold FP
 have hp:0 < N.length:=List.length_pos_iff.mpr hN0
 have gl:AN [.lst (N.map sD)]=some (.int (N.length:Nat)):=by rw [DT,List.length_map]
 obtain ⟨v,R1,b1,t1,v0,v1,s1⟩:=Dv (K:=K) (cs:=cs) hb (by omega) (s:=(N.length:Nat)) (by omega) (by omega)
 have u1:=s1.up
 obtain ⟨A,hA,mA,lA⟩:=Vg sD N (some v) none
 obtain ⟨B,hB,mB,lB⟩:=Vg sD N none (some v)
 have hAB:AJ (.lst (A.map sD)) (.lst (B.map sD))=some (.lst ((A ++ B).map sD)):=by
  rw [IC,List.length_map,List.length_map,if_pos (by omega),List.map_append]
 obtain ⟨r,x,R2,b2,s2,g,e⟩:=KA (K:=K) (cs:=cs) hs hN (d1:=some (.sh (.lst (N.map sD)))) (d3:=some (.sh (.int v))) (A ++ B) [] none R1 b1 (fun k hk=>(List.mem_append.mp hk).elim (mA k) (mB k)) (Gr.nil N) s1.E3 (by rw [List.length_append]; omega)
 have u2:=s2.up
 rw [List.length_append] at s2 u2
 have hf:Bj (Ak 5) (AO (FD.e2 (Qt (Ab 1) (Pt (Ab 3)) J6) (Qt (Ab 1) J6 (Pt (Ab 3))) AJ)) [1,1] (Kf (FD.QH (Am 6 (Ai K cs) (xP (Aa (Ab 0) (Aa (eC (.int 2)) Ah))) [0]) (xP (eC (.int 0))) Fb) (B9 4 (Ab 5) (FD.x2 (Am 6 (Ai K cs) (xP (Aa (Ab 0) (Aa (FD.e2 (Ab 2) (eC (.int 0)) A4) Ah))) [0]) (xP (FD.e2 (Ab 2) (eC (.int 1)) A4)) AJ) []) Ar) [some (.sh (.ad j)),some (.sh (.lst (N.map sD))),some (.sh (Cw s)),some (.sh (.int v)),some (.od [] []),none,some (.mh R1)]=.ok .nx [some (.sh (.ad j)),some (.sh (.lst (N.map sD))),some (.sh (Cw s)),some (.sh (.int v)),some (.od (By r) (Cd r)),x,some (.mh R2)]:=by
  rw [CV]
  simp! [hA,hB,hAB]
  exact e
 by_cases h0:r=[]
 ·subst h0
  obtain ⟨w,R3,b3,t3,w0,w1,s3⟩:=Dv (K:=K) (cs:=cs) s2.E3 (by omega) (s:=s.1) hs.1 (by have:=hs.2; omega)
  obtain ⟨z,hz,hix⟩:=QM (xs:=N) v0 v1
  have hp:=Rf (K:=K) (cs:=cs) (N:=N) (fk:=e2 (Ab 1) (Ab 3) A4) (k:=z) (d1:=some (.sh (.lst (N.map sD)))) (d3:=some (.sh (.int v))) (x:=x) t3 (Gr.nil N) hN (by simp! [hix])
  refine ⟨Cq [] z (w + s.2),R3,b3,?_,(Gr.nil N).put hz _,Js _ _ _,((s1.trans s2).trans s3).mono (by omega)⟩
  simp! [gl,t1,hf,beq_self_eq_true,hp,show (By []).length=0 from rfl]
  rfl
 ·refine ⟨r,R2,b2,?_,g,h0,(s1.trans s2).mono (by omega)⟩
  have hl:((r.length:Int) == (0:Int))=false:=beq_eq_false_iff_ne.mpr (by have:=List.length_pos_iff.mpr h0; omega)
  simp! [gl,t1,hf,GZ,hl]
  rfl
theorem We(r:Row):Dt.CA (Cd r)=true:=by
 unfold Cd
 induction r with
 | nil=>rfl
 | cons p r ih=>rw [List.map_cons,Dt.CA,ih]; rfl
theorem LN{j:Nat}{N:List Kn}{o:Row}(hN:N.length≤12)(go:Gr N o){d2:Option Lo}:∀ (L:List Kn) (r:Row) (x:Option Lo) (R:List Cell) (b:Bx),(∀ k∈L,k∈ks o)→Gr N r→r≠[]→R[j]? = some (F4 b)→b.n + L.length≤900000000 →
  ∃ (r':Row) (x':Option Lo) (R':List Cell) (b':Bx),At R R' j b b' L.length∧Gr N r'∧r'≠[] ∧
  BK (Ak 4) (B9 3 (Ab 4) (FD.x2 (xP (FD.e2 (Ab 1) (Ab 4) Cc)) (Am 5 (Ai K cs) (xP (Aa (Ab 0) (Aa (eC (.int 2)) Ah))) [0]) AJ) [1,4]) (L.map sD) [some (.sh (.ad j)),some (.sh (rD o)),d2,some (.od (By r) (Cd r)),x,some (.mh R)] =
   .ok .nx [some (.sh (.ad j)),some (.sh (rD o)),d2,some (.od (By r') (Cd r')),x',some (.mh R')]
 | [],r,x,R,b,_,g,h0,hb,_=>⟨r,x,R,b,At.refl hb,g,h0,rfl⟩
 | k :: L,r,x,R,b,hL,g,h0,hb,hn=>by
  simp only [List.length_cons] at hn
  obtain ⟨v,R1,b1,t1,v0,v1,s1⟩:=Dv (K:=K) (cs:=cs) hb (by omega) (s:=2) (by decide) (by decide)
  have u1:=s1.up
  have hk:=hL k List.mem_cons_self
  obtain ⟨y,hy⟩:∃ y,gt o k=some y:=by
   cases e:gt o k with
   | none=>exact absurd hk (Fy.mp e)
   | some y=>exact ⟨y,rfl⟩
  obtain ⟨r',x',R',b',s2,g',h',e⟩:=LN hN go (d2:=d2) L (Cq r k (y + v)) (some (.sh (sD k))) R1 b1 (fun z hz=>hL z (List.mem_cons_of_mem _ hz)) (g.put (go.sub k hk) _) (Js _ _ _) s1.E3 (by omega)
  refine ⟨r',x',R',b',(s1.trans s2).mono (by rw [List.length_cons]; omega),g',h',?_⟩
  have ga:Cc (rD o) (.str (S k))=some (.int y):=by rw [VA,hy]; rfl
  have hp:(B9 3 (Ab 4) (FD.x2 (xP (FD.e2 (Ab 1) (Ab 4) Cc)) (Am 5 (Ai K cs) (xP (Aa (Ab 0) (Aa (eC (.int 2)) Ah))) [0]) AJ) [1,4]) [some (.sh (.ad j)),some (.sh (rD o)),d2,some (.od (By r) (Cd r)),some (.sh (sD k)),some (.mh R)]=.ok .nx [some (.sh (.ad j)),some (.sh (rD o)),d2,some (.od (By (Cq r k (y + v))) (Cd (Cq r k (y + v)))),some (.sh (sD k)),some (.mh R1)]:=by
   refine X8 (ρ1:=[some (.sh (.ad j)),some (.sh (rD o)),d2,some (.od (By r) (Cd r)),some (.sh (sD k)),some (.mh R1)]) ?_ rfl rfl (by have:=g.len; omega)
   unfold sD
   simp! [ga,t1]
  rw [List.map_cons,D3]
  simp! [hp,e]
theorem Ww{R:List Cell}{j:Nat}{b:Bx}{N:List Kn}{o r:Row}(hb:R[j]? = some (F4 b))(hn:b.n≤800000000)(hN:N.length≤12)(go:Gr N o)(g:Gr N r)(h0:r≠[]):
  ∃ (r':Row) (R':List Cell) (b':Bx),Cn K cs [.ad j,rD o,rD r] R=.ok (rD r') R'∧Gr N r'∧r'≠[]∧At R R' j b b' 12:=by
 have ed:Cn K cs [.ad j,rD o,rD r] R=runM 5 (Ek K cs) [.ad j,rD o,rD r] R:=D8 rfl
 rw [ed]
 unfold Ek
 have lo:=go.len
 obtain ⟨r',x',R',b',s1,g',h',e⟩:=LN (K:=K) (cs:=cs) hN go (d2:=some (.sh (rD r))) (ks o) r none R b (fun _ h=>h) g h0 hb (by unfold ks; rw [List.length_map]; omega)
 have hk:(ks o).length=o.length:=List.length_map ..
 refine ⟨r',R',b',?_,g',h',s1.mono (by omega)⟩
 have hd:G7 3 (Aa (Ab 2) Ah) [2] [some (.sh (.ad j)),some (.sh (rD o)),some (.sh (rD r)),none,none,some (.mh R)]=.ok .nx [some (.sh (.ad j)),some (.sh (rD o)),some (.sh (rD r)),some (.od (By r) (Cd r)),none,some (.mh R)]:=by
  have ea:Aa (Ab 2) Ah [some (.sh (.ad j)),some (.sh (rD o)),some (.sh (rD r)),none,none,some (.mh R)]=.ok [.dic (By r) (Cd r)]:=rfl
  unfold G7
  rw [ea,Df]
  show (if Dt.CA (Cd r)=true then _ else _)=_
  rw [if_pos (We r)]
  rfl
 have hf:=NS (i:=1) (r:=o) (ρ:=[some (.sh (.ad j)),some (.sh (rD o)),some (.sh (rD r)),some (.od (By r) (Cd r)),none,some (.mh R)]) rfl rfl e
 simp! [hd,hf]
 rfl
structure Gd (N:List Kn) (R:List Row):Prop where
 g:∀ r∈R,Gr N r
 n:∀ r∈R,r≠[]
theorem Gd.app{N:List Kn}{R:List Row}{r:Row}(h:Gd N R)(g:Gr N r)(n:r≠[]):Gd N (R ++ [r]):=⟨fun x hx=>by
 rcases List.mem_append.mp hx with z | z
 ·exact h.g x z
 ·rw [List.mem_singleton.mp z]; exact g,fun x hx=>by
 rcases List.mem_append.mp hx with z | z
 ·exact h.n x z
 ·rw [List.mem_singleton.mp z]; exact n⟩
theorem UL{R:List Row}{i:Int}(h0:0≤i)(h1:i < (R.length:Int)):∃ r∈R,atI (R.map rD) i=some (rD r):=by
 obtain ⟨z,hz,hm⟩:=Jk h0 h1
 exact ⟨z,List.mem_of_getElem? hm,by rw [II,hz]; rfl⟩
abbrev Zy(ns:List Int)(N:List Kn)(s:Int × Int)(d3:Option Lo)(Rs:List Row)(x5 x6 x7 x8:Option Lo)(R:List Cell):FD.Env:=
 [some (.sh (.fls (ns.map .int))),some (.sh (.lst (N.map sD))),some (.sh (Cw s)),d3,some (.ol (Rs.map rD)),x5,x6,x7,x8,some (.mh R)]
theorem Tp{ns:List Int}(hns:ns.length≤63){N:List Kn}{s:Int × Int}(hs:Ki s)(hN:N.length≤12)(hN0:N≠[]){d3 x6 x7 x8:Option Lo}{Rs:List Row}(h:Gd N Rs)(hl:Rs.length≤100){k:Nat}(hk:k≤100)(R:List Cell):
  ∃ (r:Row) (x6' x7' x8':Option Lo) (R':List Cell),Gr N r∧r≠[]∧(An (Az 6 (Am 9 (AW K cs) (xP (Aa (Ab 0) (Aa (FD.e2 (eC (.int 2)) (Ab 5) AJ) Ah))) [0,5]) [])
  (An (Az 7 (Am 9 (Ai K cs) (xP (Aa (Ab 6) (Aa (eC (.int 6)) Ah))) [6]) [])
  (An (Az 8 (Am 9 (Cj K cs) (xP (Aa (Ab 6) (Aa (Ab 1) (Aa (Ab 2) Ah)))) [6,1,2]) [])
  (An (BV (CH (FD.t2 (eB AN (Aa (Ab 4) Ah)) (eC (.int 0)) (cI fun i j=>decide (j < i))) (FD.t2 (Ab 7) (eC (.int 1)) Fb)) (Az 8 (xB B4 (Cy (FD.x2 (xP (Ab 4)) (Am 9 (Ai K cs) (xP (Aa (Ab 6) (Aa (eB AN (Aa (Ab 4) Ah)) Ah))) [6]) A4) (xP Ah))) []) Ar)
  (An (BV (CH (FD.t2 (eB AN (Aa (Ab 4) Ah)) (eC (.int 0)) (cI fun i j=>decide (j < i))) (FD.t2 (Ab 7) (eC (.int 2)) Fb)) (Az 8 (Am 9 (Cn K cs) (Cy (xP (Ab 6)) (Cy (FD.x2 (xP (Ab 4)) (Am 9 (Ai K cs) (xP (Aa (Ab 6) (Aa (eB AN (Aa (Ab 4) Ah)) Ah))) [6]) A4) (xP (Aa (Ab 8) Ah)))) [6,8]) []) Ar)
  (BR 4 (Ab 8) [8])))))) (Zy ns N s d3 Rs (some (.sh (.int (k:Int)))) x6 x7 x8 R)=.ok .nx (Zy ns N s d3 (Rs ++ [r]) (some (.sh (.int (k:Int)))) x6' x7' x8' R'):=by
 obtain ⟨b,eb,hb⟩:=RY (K:=K) (cs:=cs) ns (k:=2 + k) (by omega) hns R
 rw [show ((2 + k:Nat):Int)=2 + (k:Int) by omega] at eb
 have a0:(R ++ [F4 b])[R.length]? = some (F4 b):=List.getElem?_concat_length ..
 obtain ⟨w,R1,b1,t1,w0,w1,s1⟩:=Dv (K:=K) (cs:=cs) a0 (by omega) (s:=6) (by decide) (by decide)
 have u1:=s1.up
 obtain ⟨r,R2,b2,t2,g,n0,s2⟩:=XR (K:=K) (cs:=cs) (N:=N) (s:=s) s1.E3 (by omega) hs hN hN0
 have u2:=s2.up
 have gl:AN [.lst (Rs.map rD)]=some (.int (Rs.length:Nat)):=by rw [DT,List.length_map]
 have hlen:(Rs.map rD).length < 16777216:=by rw [List.length_map]; omega
 have em:∀ r:Row,Rs.map rD ++ [rD r]=(Rs ++ [r]).map rD:=fun r=>by rw [List.map_append]; rfl
 by_cases h0:0 < (Rs.length:Int)
 ·by_cases h1:w=1
  ·subst h1
   obtain ⟨v,R3,b3,t3,v0,v1,s3⟩:=Dv (K:=K) (cs:=cs) s2.E3 (by omega) (s:=(Rs.length:Nat)) (by omega) (by omega)
   obtain ⟨q,hq,hix⟩:=UL v0 v1
   have gd:B4 [rD q]=some (rD q):=rfl
   refine ⟨q,some (.sh (.ad R.length)),some (.sh (.int 1)),some (.sh (rD q)),R3,h.g q hq,h.n q hq,?_⟩
   simp! [eb,t1,t2,gl,h0,decide_true,beq_self_eq_true,t3,hix,gd,show ((1:Int) == 2)=false from rfl,hlen,em]
  ·have h1':(w == (1:Int))=false:=beq_eq_false_iff_ne.mpr h1
   by_cases h2:w=2
   ·subst h2
    obtain ⟨v,R3,b3,t3,v0,v1,s3⟩:=Dv (K:=K) (cs:=cs) s2.E3 (by omega) (s:=(Rs.length:Nat)) (by omega) (by omega)
    have u3:=s3.up
    obtain ⟨q,hq,hix⟩:=UL v0 v1
    obtain ⟨r',R4,b4,t4,g',n',s4⟩:=Ww (K:=K) (cs:=cs) s3.E3 (by omega) hN (h.g q hq) g n0
    refine ⟨r',some (.sh (.ad R.length)),some (.sh (.int 2)),some (.sh (rD r')),R4,g',n',?_⟩
    simp! [eb,t1,t2,gl,h0,decide_true,h1',beq_self_eq_true,t3,hix,t4,hlen,em]
   ·have h2':(w == (2:Int))=false:=beq_eq_false_iff_ne.mpr h2
    refine ⟨r,some (.sh (.ad R.length)),some (.sh (.int w)),some (.sh (rD r)),R2,g,n0,?_⟩
    simp! [eb,t1,t2,gl,h0,decide_true,h1',h2',hlen,em]
 ·refine ⟨r,some (.sh (.ad R.length)),some (.sh (.int w)),some (.sh (rD r)),R2,g,n0,?_⟩
  simp! [eb,t1,t2,gl,h0,decide_false,hlen,em]
theorem MG{ns:List Int}(hns:ns.length≤63){N:List Kn}{s:Int × Int}(hs:Ki s)(hN:N.length≤12)(hN0:N≠[]){d3:Option Lo}:∀ (l:List Nat) (Rs:List Row) (x5 x6 x7 x8:Option Lo) (R:List Cell),(∀ k∈l,k≤100)→Rs.length + l.length≤100→Gd N Rs →
  ∃ (Rs':List Row) (x5' x6' x7' x8':Option Lo) (R':List Cell),Gd N Rs'∧Rs'.length=Rs.length + l.length ∧
  BK (Ak 5) (An (Az 6 (Am 9 (AW K cs) (xP (Aa (Ab 0) (Aa (FD.e2 (eC (.int 2)) (Ab 5) AJ) Ah))) [0,5]) [])
  (An (Az 7 (Am 9 (Ai K cs) (xP (Aa (Ab 6) (Aa (eC (.int 6)) Ah))) [6]) [])
  (An (Az 8 (Am 9 (Cj K cs) (xP (Aa (Ab 6) (Aa (Ab 1) (Aa (Ab 2) Ah)))) [6,1,2]) [])
  (An (BV (CH (FD.t2 (eB AN (Aa (Ab 4) Ah)) (eC (.int 0)) (cI fun i j=>decide (j < i))) (FD.t2 (Ab 7) (eC (.int 1)) Fb)) (Az 8 (xB B4 (Cy (FD.x2 (xP (Ab 4)) (Am 9 (Ai K cs) (xP (Aa (Ab 6) (Aa (eB AN (Aa (Ab 4) Ah)) Ah))) [6]) A4) (xP Ah))) []) Ar)
  (An (BV (CH (FD.t2 (eB AN (Aa (Ab 4) Ah)) (eC (.int 0)) (cI fun i j=>decide (j < i))) (FD.t2 (Ab 7) (eC (.int 2)) Fb)) (Az 8 (Am 9 (Cn K cs) (Cy (xP (Ab 6)) (Cy (FD.x2 (xP (Ab 4)) (Am 9 (Ai K cs) (xP (Aa (Ab 6) (Aa (eB AN (Aa (Ab 4) Ah)) Ah))) [6]) A4) (xP (Aa (Ab 8) Ah)))) [6,8]) []) Ar)
  (BR 4 (Ab 8) [8])))))) (l.map fun k:Nat=>.int (k:Int)) (Zy ns N s d3 Rs x5 x6 x7 x8 R)=.ok .nx (Zy ns N s d3 Rs' x5' x6' x7' x8' R')
 | [],Rs,x5,x6,x7,x8,R,_,_,h=>⟨Rs,x5,x6,x7,x8,R,h,rfl,rfl⟩
 | k :: l,Rs,x5,x6,x7,x8,R,hk,hl,h=>by
  simp only [List.length_cons] at hl
  obtain ⟨r,y6,y7,y8,R1,g,n,e1⟩:=Tp (K:=K) (cs:=cs) hns hs hN hN0 (d3:=d3) (x6:=x6) (x7:=x7) (x8:=x8) h (by omega) (hk k List.mem_cons_self) R
  obtain ⟨Rs',x5',x6',x7',x8',R',h',hl',e⟩:=MG hns hs hN hN0 (d3:=d3) l (Rs ++ [r]) (some (.sh (.int (k:Int)))) y6 y7 y8 R1 (fun z hz=>hk z (List.mem_cons_of_mem _ hz)) (by rw [List.length_append,List.length_singleton]; omega) (h.app g n)
  refine ⟨Rs',x5',x6',x7',x8',R',h',by rw [hl',List.length_append,List.length_singleton,List.length_cons]; omega,?_⟩
  rw [List.map_cons,Dx (ρ1:=Zy ns N s d3 Rs (some (.sh (.int (k:Int)))) x6 x7 x8 R) rfl,e1]
  exact e
theorem ZJ(r:Row):(rD r).na=true:=by
 have h:Dt.F5 (Cd r)=true:=by
  unfold Cd
  induction r with
  | nil=>rfl
  | cons p r ih=>rw [List.map_cons,Dt.F5,ih]; rfl
 unfold rD
 rw [Dt.na]
 exact h
theorem G2{α:Type}{f:α→Dt}(h:∀ a,(f a).na=true):∀ l:List α,Dt.F5 (l.map f)=true
 | []=>rfl
 | a :: l=>by rw [List.map_cons,Dt.F5,h a,G2 h l]; rfl
theorem Nu(n:Nat):Ib 0 n=(List.range n).map fun k:Nat=>.int (k:Int):=by
 unfold Ib
 exact List.map_congr_left fun k _=>by rw [Int.zero_add]
theorem Yi{ns:List Int}(hns:ns.length≤63){N:List Kn}{s:Int × Int}(hs:Ki s)(hN:N.length≤12)(hN0:N≠[]){c:Nat}(hc:c≤100):
  ∃ Rs:List Row,DQ K cs [.fls (ns.map .int),.lst (N.map sD),Cw s,.int c]=.ok (.lst (Rs.map rD))∧Gd N Rs∧Rs.length=c:=by
 have ed:DQ K cs [.fls (ns.map .int),.lst (N.map sD),Cw s,.int c]=Ml 9 (ED K cs) [.fls (ns.map .int),.lst (N.map sD),Cw s,.int c]:=A6 rfl
 have hna:Dt.F5 [.fls (ns.map .int),.lst (N.map sD),Cw s,.int (c:Int)]=true:=by
  have h1:(Dt.fls (ns.map .int)).na=true:=by rw [Dt.na]; exact G2 (fun _=>rfl) ns
  have h2:(Dt.lst (N.map sD)).na=true:=by rw [Dt.na]; exact G2 (fun _=>rfl) N
  rw [Dt.F5,Dt.F5,Dt.F5,Dt.F5,h1,h2]
  rfl
 rw [ed,RI hna]
 unfold ED
 obtain ⟨Rs,x5,x6,x7,x8,R,h,hl,e⟩:=MG (K:=K) (cs:=cs) hns hs hN hN0 (d3:=some (.sh (.int (c:Int)))) (List.range c) [] none none none none [] (fun k hk=>by have:=List.mem_range.mp hk; omega) (by rw [List.length_range]; simpa using hc) ⟨fun r hr=>(nomatch hr),fun r hr=>(nomatch hr)⟩
 rw [List.length_range] at hl
 refine ⟨Rs,?_,h,by simpa using hl⟩
 have hsm:Dz (c:Int)=true:=decide_eq_true (by omega)
 have hf:Bj (Ak 5) (BP (Aa (Ab 3) Ah)) [] (An (Az 6 (Am 9 (AW K cs) (xP (Aa (Ab 0) (Aa (FD.e2 (eC (.int 2)) (Ab 5) AJ) Ah))) [0,5]) [])
  (An (Az 7 (Am 9 (Ai K cs) (xP (Aa (Ab 6) (Aa (eC (.int 6)) Ah))) [6]) [])
  (An (Az 8 (Am 9 (Cj K cs) (xP (Aa (Ab 6) (Aa (Ab 1) (Aa (Ab 2) Ah)))) [6,1,2]) [])
  (An (BV (CH (FD.t2 (eB AN (Aa (Ab 4) Ah)) (eC (.int 0)) (cI fun i j=>decide (j < i))) (FD.t2 (Ab 7) (eC (.int 1)) Fb)) (Az 8 (xB B4 (Cy (FD.x2 (xP (Ab 4)) (Am 9 (Ai K cs) (xP (Aa (Ab 6) (Aa (eB AN (Aa (Ab 4) Ah)) Ah))) [6]) A4) (xP Ah))) []) Ar)
  (An (BV (CH (FD.t2 (eB AN (Aa (Ab 4) Ah)) (eC (.int 0)) (cI fun i j=>decide (j < i))) (FD.t2 (Ab 7) (eC (.int 2)) Fb)) (Az 8 (Am 9 (Cn K cs) (Cy (xP (Ab 6)) (Cy (FD.x2 (xP (Ab 4)) (Am 9 (Ai K cs) (xP (Aa (Ab 6) (Aa (eB AN (Aa (Ab 4) Ah)) Ah))) [6]) A4) (xP (Aa (Ab 8) Ah)))) [6,8]) []) Ar)
  (BR 4 (Ab 8) [8])))))) [some (.sh (.fls (ns.map .int))),some (.sh (.lst (N.map sD))),some (.sh (Cw s)),some (.sh (.int (c:Int))),some (.ol []),none,none,none,none,some (.mh [])]=.ok .nx [some (.sh (.fls (ns.map .int))),some (.sh (.lst (N.map sD))),some (.sh (Cw s)),some (.sh (.int (c:Int))),some (.ol (Rs.map rD)),x5,x6,x7,x8,some (.mh R)]:=by
  rw [CV]
  simp! [Hn,hsm,Int.toNat_natCast,Nu]
  exact e
 have hna2:(Dt.lst (Rs.map rD)).na=true:=by rw [Dt.na]; exact G2 ZJ Rs
 simp! [hf,FD.GA,RU,hna2]
theorem Ei{α:Type}{f:α→Dt}{g:α→PyData}:∀ l:List α,(∀ a∈l,(f a).py=some (g a))→Dt.Nd (l.map f)=some (l.map g)
 | [],_=>rfl
 | a :: l,h=>by
  rw [List.map_cons,Dt.Nd,h a List.mem_cons_self,Ei l fun x hx=>h x (List.mem_cons_of_mem _ hx)]
  rfl
theorem Qj(p:Kn × Int):(M3 p).py=some (pP p):=rfl
theorem JP(r:Row):(fD r).py=some (rP r):=by
 unfold fD
 rw [Dt.py,Ei r fun p _=>Qj p]
 rfl
theorem Zr(r:Row):(tT r).py=some (tP r):=by
 unfold tT
 rw [Dt.py,Dt.Nd,Dt.Nd,Dt.Nd,JP]
 rfl
theorem Qg(p:Kn × Int):(pP p).depth=1:=by
 unfold pP sP
 simp [PyData.depth,PyData.depthAll]
theorem Jg{α:Type}{g:α→PyData}{n:Nat}(h:∀ a,(g a).depth≤n):∀ l:List α,PyData.depthAll (l.map g)≤n
 | []=>by simp [PyData.depthAll]
 | a :: l=>by
  rw [List.map_cons,PyData.depthAll]
  exact Nat.max_le.mpr ⟨h a,Jg h l⟩
theorem LV(r:Row):(rP r).depth≤2:=by
 have:=Jg (g:=pP) (n:=1) (fun p=>by rw [Qg]; exact Nat.le_refl _) r
 unfold rP
 rw [PyData.depth]
 omega
theorem Yx(r:Row):(tP r).depth≤3:=by
 have:=LV r
 unfold tP
 simp only [PyData.depth,PyData.depthAll]
 omega
theorem K7{α:Type}{f:α→Dt}{g:α→PyData}{l:List α}(hp:∀ a∈l,(f a).py=some (g a))(ha:∀ a∈l,∀ b∈l,PySem.W.alike (g a) (g b)=true)(ht:∀ a∈l,VF (g a)=true)(hd:∀ a∈l,(g a).depth≤60){le:α→α→Bool}(hle:∀ a b,le a b=Zh (g a) (g b)):
  De [.lst (l.map f)]=some ((l.mergeSort le).map f):=by
 have h1:Oq (l.map g)=true:=by
  unfold Oq
  refine List.all_eq_true.mpr fun x hx=>List.all_eq_true.mpr fun y hy=>?_
  obtain ⟨a,ha',rfl⟩:=List.mem_map.mp hx
  obtain ⟨b,hb',rfl⟩:=List.mem_map.mp hy
  exact ha a ha' b hb'
 have h2:MX (l.map g)=true:=by
  unfold MX
  rw [Bool.and_eq_true,Bool.or_eq_true]
  refine ⟨.inl (List.all_eq_true.mpr fun x hx=>?_),List.all_eq_true.mpr fun x hx=>?_⟩
  ·obtain ⟨a,ha',rfl⟩:=List.mem_map.mp hx
   exact ht a ha'
  ·obtain ⟨a,ha',rfl⟩:=List.mem_map.mp hx
   exact decide_eq_true (hd a ha')
 unfold De
 show ((some (l.map f):Option (List Dt)).bind fun ds=>(Dt.Nd ds).bind fun ps=>if Oq ps=true∧MX ps=true then some (((ds.zip ps).mergeSort Sa).map (·.1)) else none)=_
 simp only [Option.bind_some]
 rw [Ei l hp]
 simp only [Option.bind_some]
 rw [if_pos ⟨h1,h2⟩]
 have hz:(l.map f).zip (l.map g)=l.map fun t=>(f t,g t):=List.zip_map'
 rw [hz]
 have hm:(l.map fun t=>(f t,g t)).mergeSort Sa=(l.mergeSort le).map fun t=>(f t,g t):=(List.map_mergeSort (l:=l) (f:=fun t=>(f t,g t)) (r:=le) (s:=Sa) (fun a _ b _=>hle a b)).symm
 rw [hm,List.map_map]
 rfl
theorem YC(p:Kn × Int):VF (pP p)=true:=rfl
theorem YA{r:Row}(h:r≠[]):VF (rP r)=true:=by
 cases r with
 | nil=>exact absurd rfl h
 | cons p r=>rfl
theorem RZ(r:Row):De [.lst (r.map M3)]=some ((flat r).map M3):=
 K7 (g:=pP) (le:=pO.le) (fun p _=>Qj p) (fun a _ b _=>KO a b) (fun p _=>YC p) (fun p _=>by rw [Qg]; decide) fun _ _=>rfl
theorem Xp{L:List Row}(h:∀ r∈L,r≠[]):De [.lst (L.map fD)]=some ((rO.sort L).map fD):=
 K7 (g:=rP) (le:=rO.le) (fun r _=>JP r) (fun a _ b _=>IP a b) (fun r hr=>YA (h r hr)) (fun r _=>by have:=LV r; omega) fun _ _=>rfl
theorem Wc(L:List Row):De [.lst (L.map tT)]=some ((tO.sort L).map tT):=
 K7 (g:=tP) (le:=tO.le) (fun r _=>Zr r) (fun a _ b _=>PN a b) (fun r _=>rfl) (fun r _=>by have:=Yx r; omega) fun _ _=>rfl
theorem UK(r:Row):Gw K cs [rD r]=.ok (fD (flat r)):=by
 have ed:Gw K cs [rD r]=AR 1 (Ia K cs) [rD r]:=A6 rfl
 rw [ed]
 unfold Ia
 have hs:Kt (rD r)=some ((flat r).map M3):=by
  show De [.lst (Vp (By r) (Cd r))]=_
  have:=items r
  have e:Vp (By r) (Cd r)=r.map M3:=Option.some.inj this
  rw [e,RZ]
 simp! [QR,hs,L0]
 rfl
theorem Yq(r:Row):DM K cs [rD r]=.ok (fD (flat r)):=by
 have ed:DM K cs [rD r]=AR 1 (ES K cs) [rD r]:=A6 rfl
 rw [ed]
 unfold ES
 simp! [Jn,items,RZ,L0]
 rfl
theorem J8{b:Row}{d0:Option Lo}:∀ (a:Row) (x y:Option Lo),∃ x' y',BK (Hv (BF (Ak 2) (BF (Ak 3) G8))) (BV (CT (FD.t2 (Ab 2) (Ab 1) (CY Ma)) (FD.t2 (Ab 3) (FD.e2 (Ab 1) (Ab 2) Cc) (cI fun i j=>decide (j < i)))) (Ax (eC (.bl false)) []) Ar) (a.map M3) [d0,some (.sh (rD b)),x,y]=if Bz a b=true then .ok .nx [d0,some (.sh (rD b)),x',y'] else .ok (.rt (.bl false)) [d0,some (.sh (rD b)),x',y']
 | [],x,y=>⟨x,y,rfl⟩
 | p :: a,x,y=>by
  obtain ⟨x',y',e⟩:=J8 (b:=b) (d0:=d0) a (some (.sh (.str (S p.1)))) (some (.sh (.int p.2)))
  have hb:Bz (p :: a) b=((match gt b p.1 with | some y=>decide (p.2≤y) | none=>false) && Bz a b):=rfl
  have ga:=VA b p.1
  have gi:=gIn b p.1
  have hu:Hv (BF (Ak 2) (BF (Ak 3) G8)) (M3 p) [d0,some (.sh (rD b)),x,y]=some [d0,some (.sh (rD b)),some (.sh (.str (S p.1))),some (.sh (.int p.2))]:=by
   unfold M3
   simp! []
  rw [hb,List.map_cons,Dx hu]
  cases hg:gt b p.1 with
  | none=>
   have hk:p.1∉ks b:=Fy.mp hg
   rw [decide_eq_false hk] at gi
   refine ⟨some (.sh (.str (S p.1))),some (.sh (.int p.2)),?_⟩
   simp! [gi]
  | some z=>
   have hk:p.1∈ks b:=GI (LY hg)
   rw [decide_eq_true hk] at gi
   rw [hg] at ga
   by_cases hz:z < p.2
   ·refine ⟨some (.sh (.str (S p.1))),some (.sh (.int p.2)),?_⟩
    have hz':¬ p.2≤z:=by omega
    simp! [gi,ga,hz,hz',decide_true,decide_false]
   ·refine ⟨x',y',?_⟩
    have hz':p.2≤z:=by omega
    simp! [gi,ga,hz,hz',decide_true,decide_false,e]
theorem T1(a b:Row):Ex K cs [fD a,rD b]=.ok (.bl (Bz a b)):=by
 have ed:Ex K cs [fD a,rD b]=AR 4 (HP K cs) [fD a,rD b]:=A6 rfl
 rw [ed]
 unfold HP
 obtain ⟨x',y',e⟩:=J8 (b:=b) (d0:=some (.sh (fD a))) a none none
 have hf:Bj (Hv (BF (Ak 2) (BF (Ak 3) G8))) (AO (Ab 0)) [0] (BV (CT (FD.t2 (Ab 2) (Ab 1) (CY Ma)) (FD.t2 (Ab 3) (FD.e2 (Ab 1) (Ab 2) Cc) (cI fun i j=>decide (j < i)))) (Ax (eC (.bl false)) []) Ar) [some (.sh (fD a)),some (.sh (rD b)),none,none]=BK (Hv (BF (Ak 2) (BF (Ak 3) G8))) (BV (CT (FD.t2 (Ab 2) (Ab 1) (CY Ma)) (FD.t2 (Ab 3) (FD.e2 (Ab 1) (Ab 2) Cc) (cI fun i j=>decide (j < i)))) (Ax (eC (.bl false)) []) Ar) (a.map M3) [some (.sh (fD a)),some (.sh (rD b)),none,none]:=rfl
 rw [e] at hf
 cases hb:Bz a b with
 | true=>
  rw [hb,if_pos rfl] at hf
  simp! [hf]
 | false=>
  rw [hb,if_neg (by decide)] at hf
  simp! [hf]
theorem Rv:∀ r:Row,Sq (r.map M3)=some (r.map fun p=>(kN p.1,Dt.int p.2))
 | []=>rfl
 | p :: r=>by
  rw [List.map_cons,Sq,Rv r]
  rfl
theorem ZF{r:Row}(h:(ks r).Nodup):(By r).Nodup:=by
 have e:By r=(ks r).map kN:=by unfold By ks; rw [List.map_map]; rfl
 rw [e]
 exact List.Pairwise.map _ (fun a b hab z=>hab (Og z)) h
theorem R7{r:Row}(h:(ks r).Nodup):Jv [fD r]=some (rD r):=by
 unfold fD Jv
 simp only
 rw [Rv,Option.bind_some]
 have e1:(r.map fun p=>(kN p.1,Dt.int p.2)).map (·.1)=By r:=by rw [List.map_map]; rfl
 have e2:(r.map fun p=>(kN p.1,Dt.int p.2)).map (·.2)=Cd r:=by rw [List.map_map]; rfl
 rw [e1,e2,if_pos (ZF h)]
 rfl
theorem O5{r:Row}{d0 d1:Option Lo}:∀ (L:List Row) (x:Option Lo),∃ x',BK (Ak 3) (BV (FD.t1 (Ao (Ex K cs) (Aa (Ab 3) (Aa (Ab 2) Ah))) BN) (Ax (eC (.bl true)) []) Ar) (L.map fD) [d0,d1,some (.sh (rD r)),x]=if (L.any fun o=>Bz o r)=true then .ok (.rt (.bl true)) [d0,d1,some (.sh (rD r)),x'] else .ok .nx [d0,d1,some (.sh (rD r)),x']
 | [],x=>⟨x,rfl⟩
 | o :: L,x=>by
  obtain ⟨x',e⟩:=O5 (r:=r) (d0:=d0) (d1:=d1) L (some (.sh (fD o)))
  have t:=T1 (K:=K) (cs:=cs) o r
  rw [List.map_cons,D3,List.any_cons]
  cases hb:Bz o r with
  | true=>
   rw [hb] at t
   refine ⟨some (.sh (fD o)),?_⟩
   simp! [t]
  | false=>
   rw [hb] at t
   refine ⟨x',?_⟩
   simp! [t,e]
theorem OM(L:List Row){r:Row}(h:(ks r).Nodup):C9 K cs [.lst (L.map fD),fD r]=.ok (.bl (L.any fun o=>Bz o r)):=by
 have ed:C9 K cs [.lst (L.map fD),fD r]=AR 4 (EO K cs) [.lst (L.map fD),fD r]:=A6 rfl
 rw [ed]
 unfold EO
 obtain ⟨x',e⟩:=O5 (K:=K) (cs:=cs) (r:=r) (d0:=some (.sh (.lst (L.map fD)))) (d1:=some (.sh (fD r))) L none
 have hf:Bj (Ak 3) (AO (Ab 0)) [0] (BV (FD.t1 (Ao (Ex K cs) (Aa (Ab 3) (Aa (Ab 2) Ah))) BN) (Ax (eC (.bl true)) []) Ar) [some (.sh (.lst (L.map fD))),some (.sh (fD r)),some (.sh (rD r)),none]=BK (Ak 3) (BV (FD.t1 (Ao (Ex K cs) (Aa (Ab 3) (Aa (Ab 2) Ah))) BN) (Ax (eC (.bl true)) []) Ar) (L.map fD) [some (.sh (.lst (L.map fD))),some (.sh (fD r)),some (.sh (rD r)),none]:=rfl
 rw [e] at hf
 have hd:AI (rD r) [1] [some (.sh (.lst (L.map fD))),some (.sh (fD r)),none,none]=[some (.sh (.lst (L.map fD))),some (.sh (fD r)),none,none]:=DG (by rfl)
 cases hb:L.any fun o=>Bz o r with
 | true=>
  rw [hb,if_pos rfl] at hf
  simp! [R7 h,hd,hf]
 | false=>
  rw [hb,if_neg (by decide)] at hf
  simp! [R7 h,hd,hf]
theorem Kw{α:Type}{u:Dt→FD.Env→Option FD.Env}{f:FD.Env→Out Dt}{ρ:FD.Env}{e g:α→Dt}:∀ {xs:List α},(∀ x∈xs,∃ ρ1,u (e x) ρ=some ρ1∧f ρ1=.ok (g x))→P6 u AD f ρ (xs.map e)=.ok (xs.map g)
 | [],_=>rfl
 | x :: xs,h=>by
  obtain ⟨ρ1,h1,h2⟩:=h x List.mem_cons_self
  rw [List.map_cons,OX,h1]
  simp only [Co,Out.AB,Rp,G1,if_true,h2]
  rw [Kw fun y hy=>h y (List.mem_cons_of_mem _ hy)]
  rfl
theorem Cg{α:Type}{u:Dt→FD.Env→Option FD.Env}{vs lk:List Nat}{f:FD.Env→Out Dt}{src:FD.Env→Out (List Dt)}{ρ:FD.Env}{e g:α→Dt}{xs:List α}(hs:src ρ=.ok (xs.map e))(hl:xs.length≤16777216)(h:∀ x∈xs,∃ ρ1,u (e x) (Br (frz lk ρ) vs)=some ρ1∧f ρ1=.ok (g x)):
  EG u vs AD f src lk ρ=.ok (xs.map g):=by
 rw [X3,hs,Out.AB,if_pos (by rw [List.length_map]; exact hl),Kw h]
structure Sz (R:List Row):Prop where
 l:R.length≤1000
 r:∀ r∈R,r.length≤1000
 n:∀ r∈R,(ks r).Nodup
theorem Xm(r:Row):Mr [.lst (Cd r)]=some (.int (sm r)):=by
 have:Cd r=(r.map (·.2)).map Dt.int:=by unfold Cd; rw [List.map_map]; rfl
 rw [this]
 show (F2 _).map _=_
 rw [Fh]
 rfl
theorem Yk{R:List Row}(h:Sz R){x5 x6 x7:Option Lo}:(EG (Ak 2) [2] AD (Jo (Aa (eB AN (Aa (Ab 2) Ah)) (Aa (eB Mr (Aa (eL (EG (Hv (BF (Ak 3) (BF (Ak 4) G8))) [3,4] AD (Ab 4) (AO (Ab 2)) [2])) Ah)) (Aa (Ab 2) Ah)))) (AO (Ab 0)) [0]) [some (.sh (.lst (R.map fD))),none,none,none,none,x5,x6,x7]=.ok (R.map tT):=by
 refine Cg (e:=fD) rfl (by have:=h.l; omega) fun r hr=>⟨[some (.sh (.lst (R.map fD))),none,some (.sh (fD r)),none,none,x5,x6,x7],rfl,?_⟩
 have hi:EG (Hv (BF (Ak 3) (BF (Ak 4) G8))) [3,4] AD (Ab 4) (AO (Ab 2)) [2] [some (.sh (.lst (R.map fD))),none,some (.sh (fD r)),none,none,x5,x6,x7]=.ok (Cd r):=
  Cg (e:=M3) (g:=fun p=>.int p.2) rfl (by have:=h.r r hr; omega) fun p hp=>⟨[some (.sh (.lst (R.map fD))),none,some (.sh (fD r)),some (.sh (.str (S p.1))),some (.sh (.int p.2)),x5,x6,x7],rfl,rfl⟩
 have gl:AN [fD r]=some (.int r.length):=by
  unfold fD
  rw [Pz,List.length_map]
 simp! [hi,gl,Xm]
 rfl
theorem K8{d0 d1 x3 x4:Option Lo}:∀ (T Kp:List Row) (x2 x6 x7:Option Lo),(∀ r∈T,(ks r).Nodup)→Kp.length + T.length≤1000→∃ x2' x6' x7',BK (Hv (BF (Ak 6) (BF (Ak 7) (BF (Ak 2) G8)))) (BV (Bw (FD.t1 (Ao (C9 K cs) (Aa (Ab 5) (Aa (Ab 2) Ah))) BN)) (BR 5 (Ab 2) [2]) Ar) (T.map tT) [d0,d1,x2,x3,x4,some (.ol (Kp.map fD)),x6,x7]=.ok .nx [d0,d1,x2',x3,x4,some (.ol ((keep Kp T).map fD)),x6',x7']
 | [],Kp,x2,x6,x7,_,_=>⟨x2,x6,x7,rfl⟩
 | r :: T,Kp,x2,x6,x7,hn,hl=>by
  simp only [List.length_cons] at hl
  have t:=OM (K:=K) (cs:=cs) Kp (hn r List.mem_cons_self)
  have hn':∀ r∈T,(ks r).Nodup:=fun x hx=>hn x (List.mem_cons_of_mem _ hx)
  have hu:Hv (BF (Ak 6) (BF (Ak 7) (BF (Ak 2) G8))) (tT r) [d0,d1,x2,x3,x4,some (.ol (Kp.map fD)),x6,x7]=some [d0,d1,some (.sh (fD r)),x3,x4,some (.ol (Kp.map fD)),some (.sh (.int r.length)),some (.sh (.int (sm r)))]:=rfl
  rw [List.map_cons,Dx hu]
  unfold keep
  cases hb:Kp.any fun o=>Bz o r with
  | true=>
   rw [hb] at t
   obtain ⟨x2',x6',x7',e⟩:=K8 (d0:=d0) (d1:=d1) (x3:=x3) (x4:=x4) T Kp (some (.sh (fD r))) (some (.sh (.int r.length))) (some (.sh (.int (sm r)))) hn' (by omega)
   refine ⟨x2',x6',x7',?_⟩
   rw [if_pos rfl]
   simp! [t,e]
  | false=>
   rw [hb] at t
   obtain ⟨x2',x6',x7',e⟩:=K8 (d0:=d0) (d1:=d1) (x3:=x3) (x4:=x4) T (Kp ++ [r]) (some (.sh (fD r))) (some (.sh (.int r.length))) (some (.sh (.int (sm r)))) hn' (by rw [List.length_append,List.length_singleton]; omega)
   refine ⟨x2',x6',x7',?_⟩
   rw [if_neg (by decide)]
   have em:Kp.map fD ++ [fD r]=(Kp ++ [r]).map fD:=by rw [List.map_append]; rfl
   have hlen:(Kp.map fD).length < 16777216:=by rw [List.length_map]; omega
   have hz:AI (fD r) [2] [d0,d1,some (.sh (fD r)),x3,x4,some (.ol (Kp.map fD)),some (.sh (.int r.length)),some (.sh (.int (sm r)))]=[d0,d1,some (.sh (fD r)),x3,x4,some (.ol (Kp.map fD)),some (.sh (.int r.length)),some (.sh (.int (sm r)))]:=DG rfl
   simp! [t,hz,hlen,em,e]
theorem T7{R:List Row}(h:Sz R)(h0:∀ r∈R,r≠[]):HV K cs [.lst (R.map fD)]=.ok (.tup ((lows R).map fD)):=by
 have ed:HV K cs [.lst (R.map fD)]=AR 8 (IF K cs) [.lst (R.map fD)]:=A6 rfl
 rw [ed]
 unfold IF
 have hp:=tO.Er R
 obtain ⟨x2,x6,x7,e⟩:=K8 (K:=K) (cs:=cs) (d0:=some (.sh (.lst (R.map fD)))) (d1:=some (.sh (.lst ((tO.sort R).map tT)))) (x3:=none) (x4:=none) (tO.sort R) [] none none none (fun r hr=>h.n r (hp.mem_iff.mp hr)) (by rw [hp.length_eq]; have:=h.l; simpa using this)
 have hs:=Yk h (x5:=none) (x6:=none) (x7:=none)
 have hf:Bj (Hv (BF (Ak 6) (BF (Ak 7) (BF (Ak 2) G8)))) (AO (Ab 1)) [1] (BV (Bw (FD.t1 (Ao (C9 K cs) (Aa (Ab 5) (Aa (Ab 2) Ah))) BN)) (BR 5 (Ab 2) [2]) Ar) [some (.sh (.lst (R.map fD))),some (.sh (.lst ((tO.sort R).map tT))),none,none,none,some (.ol []),none,none]=.ok .nx [some (.sh (.lst (R.map fD))),some (.sh (.lst ((tO.sort R).map tT))),x2,none,none,some (.ol ((keep [] (tO.sort R)).map fD)),x6,x7]:=e
 have hk:∀ r∈keep [] (tO.sort R),r≠[]:=fun r hr=>by
  have:∀ (T Kp:List Row),∀ x∈keep Kp T,x∈Kp∨x∈T:=fun T=>by
   induction T with
   | nil=>exact fun Kp x hx=>.inl hx
   | cons r T ih=>
    intro Kp x hx
    unfold keep at hx
    split at hx
    ·exact (ih Kp x hx).imp id (List.mem_cons_of_mem _)
    ·rcases ih _ x hx with z | z
     ·rcases List.mem_append.mp z with z | z
      ·exact .inl z
      ·rw [List.mem_singleton.mp z]; exact .inr List.mem_cons_self
     ·exact .inr (List.mem_cons_of_mem _ z)
  rcases this (tO.sort R) [] r hr with z | z
  ·cases z
  ·exact h0 r (hp.mem_iff.mp z)
 simp! [hs,Wc,FD.GA,hf,Xp hk]
 rfl
theorem Sz.flat{R:List Row}(h:Sz R):Sz (R.map flat):=⟨by rw [List.length_map]; exact h.l,fun r hr=>by
 obtain ⟨x,hx,rfl⟩:=List.mem_map.mp hr
 rw [(Cp x).length_eq]; exact h.r x hx,fun r hr=>by
 obtain ⟨x,hx,rfl⟩:=List.mem_map.mp hr
 exact (MV (h.n x hx)).nd⟩
theorem Rk{r:Row}(h:r≠[]):flat r≠[]:=fun e=>h (List.eq_nil_of_length_eq_zero (by rw [← (Cp r).length_eq,e]; rfl))
theorem Ur{R:List Row}(h:Sz R)(h0:∀ r∈R,r≠[]):HI K cs [.lst (R.map rD)]=.ok (.tup ((nf R).map fD)):=by
 have ed:HI K cs [.lst (R.map rD)]=AR 2 (HG K cs) [.lst (R.map rD)]:=A6 rfl
 rw [ed]
 unfold HG
 have hc:EG (Ak 1) [1] AD (Ao (Gw K cs) (Aa (Ab 1) Ah)) (AO (Ab 0)) [0] [some (.sh (.lst (R.map rD))),none]=.ok ((R.map flat).map fD):=by
  rw [List.map_map]
  refine Cg (e:=rD) rfl (by have:=h.l; omega) fun r hr=>⟨[some (.sh (.lst (R.map rD))),some (.sh (rD r))],rfl,?_⟩
  simp! [UK]
  rfl
 have t:=T7 (K:=K) (cs:=cs) h.flat fun r hr=>by
  obtain ⟨x,hx,rfl⟩:=List.mem_map.mp hr
  exact Rk (h0 x hx)
 simp! [hc,t]
 rfl
abbrev TB(cs:Cs):Exn:=⟨cs.c_EmptyForm,[]⟩
theorem M8{d0:Option Lo}:∀ (R:List Row) (x:Option Lo),((∀ r∈R,r≠[])→∃ x',BK (Ak 1) (BV (FD.t2 (eB GD (Aa (Ab 1) Ah)) (eC (.int 0)) Fb) (Fq cs.c_EmptyForm BA Bk Ah) Ar) (R.map rD) [d0,x]=.ok .nx [d0,x'])∧((∃ r∈R,r=[])→∃ ρ',BK (Ak 1) (BV (FD.t2 (eB GD (Aa (Ab 1) Ah)) (eC (.int 0)) Fb) (Fq cs.c_EmptyForm BA Bk Ah) Ar) (R.map rD) [d0,x]=.exc (TB cs) ρ')
 | [],x=>⟨fun _=>⟨x,rfl⟩,fun ⟨r,h,_⟩=>nomatch h⟩
 | r :: R,x=>by
  obtain ⟨i1,i2⟩:=M8 (d0:=d0) R (some (.sh (rD r)))
  have gl:GD [rD r]=some (.int r.length):=by
   show some (Dt.int ((By r).length:Nat))=_
   rw [GZ]
  rw [List.map_cons,D3]
  by_cases h:r=[]
  ·subst h
   refine ⟨fun z=>absurd rfl (z [] List.mem_cons_self),fun _=>⟨[d0,some (.sh (rD []))],?_⟩⟩
   simp! [gl,beq_self_eq_true,List.zip_nil_left,and_self,Dt.CA]
   rfl
  ·have hb:((r.length:Int) == (0:Int))=false:=beq_eq_false_iff_ne.mpr (by have:=List.length_pos_iff.mpr h; omega)
   refine ⟨fun z=>?_,fun ⟨q,hq,e⟩=>?_⟩
   ·obtain ⟨x',e⟩:=i1 fun y hy=>z y (List.mem_cons_of_mem _ hy)
    refine ⟨x',?_⟩
    simp! [gl,hb,e]
   ·have hq':∃ r∈R,r=[]:=by
     rcases List.mem_cons.mp hq with z | z
     ·exact absurd (z ▸ e) h
     ·exact ⟨q,z,e⟩
    obtain ⟨ρ',e'⟩:=i2 hq'
    refine ⟨ρ',?_⟩
    simp! [gl,hb,e']
theorem X4{R:List Row}:(R≠[]→(∀ r∈R,r≠[])→DU K cs [.lst (R.map rD)]=.ok .non)∧((R=[]∨∃ r∈R,r=[])→DU K cs [.lst (R.map rD)]=.exc (TB cs)):=by
 have ed:DU K cs [.lst (R.map rD)]=AR 2 (EH K cs) [.lst (R.map rD)]:=A6 rfl
 rw [ed]
 unfold EH
 have gl:AN [.lst (R.map rD)]=some (.int (R.length:Nat)):=by rw [DT,List.length_map]
 obtain ⟨i1,i2⟩:=M8 (cs:=cs) (d0:=some (.sh (.lst (R.map rD)))) R none
 have hf:Bj (Ak 1) (AO (Ab 0)) [0] (BV (FD.t2 (eB GD (Aa (Ab 1) Ah)) (eC (.int 0)) Fb) (Fq cs.c_EmptyForm BA Bk Ah) Ar) [some (.sh (.lst (R.map rD))),none]=BK (Ak 1) (BV (FD.t2 (eB GD (Aa (Ab 1) Ah)) (eC (.int 0)) Fb) (Fq cs.c_EmptyForm BA Bk Ah) Ar) (R.map rD) [some (.sh (.lst (R.map rD))),none]:=rfl
 by_cases h:R=[]
 ·subst h
  refine ⟨fun z=>absurd rfl z,fun _=>?_⟩
  simp! [gl,beq_self_eq_true,and_self,Dt.CA,List.zip_nil_left,show (((0:Nat):Int) == 0)=true from rfl]
  rfl
 ·have hb:((R.length:Int) == (0:Int))=false:=beq_eq_false_iff_ne.mpr (by have:=List.length_pos_iff.mpr h; omega)
  refine ⟨fun _ z=>?_,fun z=>?_⟩
  ·obtain ⟨x',e⟩:=i1 z
   rw [e] at hf
   simp! [gl,hb,hf]
  ·obtain ⟨ρ',e⟩:=i2 (z.resolve_left h)
   rw [e] at hf
   simp! [gl,hb,hf]
theorem RO{R:List Row}(h:Sz R):(R≠[]→(∀ r∈R,r≠[])→BS K cs [.lst (R.map rD)]=.ok (.tup ((nf R).map fD)))∧((R=[]∨∃ r∈R,r=[])→BS K cs [.lst (R.map rD)]=.exc (TB cs)):=by
 have ed:BS K cs [.lst (R.map rD)]=AR 1 (Eh K cs) [.lst (R.map rD)]:=A6 rfl
 rw [ed]
 unfold Eh
 obtain ⟨i1,i2⟩:=X4 (K:=K) (cs:=cs) (R:=R)
 refine ⟨fun h1 h2=>?_,fun z=>?_⟩
 ·have t:=Ur (K:=K) (cs:=cs) h h2
  simp! [i1 h1 h2,t]
 ·simp! [i2 z]
theorem MH{α:Type}{E:FD.Env→Prop}{u:Dt→FD.Env→Option FD.Env}{b:FD.Env→SOut}{e:α→Dt}:∀ xs:List α,(∀ x∈xs,∀ ρ,E ρ→∃ ρ1 ρ2,u (e x) ρ=some ρ1∧b ρ1=.ok .nx ρ2∧E ρ2)→∀ ρ,E ρ→∃ ρ',BK u b (xs.map e) ρ=.ok .nx ρ'∧E ρ'
 | [],_,ρ,h=>⟨ρ,rfl,h⟩
 | x :: xs,hs,ρ,h=>by
  obtain ⟨ρ1,ρ2,h1,h2,h3⟩:=hs x List.mem_cons_self ρ h
  obtain ⟨ρ',h4,h5⟩:=MH xs (fun y hy=>hs y (List.mem_cons_of_mem _ hy)) ρ2 h3
  refine ⟨ρ',?_,h5⟩
  rw [List.map_cons,Dx h1,h2]
  exact h4
theorem JO{a b:Row}(na:(ks a).Nodup):∀ (L:Row) (x:Option Lo),(∀ p∈L,p∈a)→∃ x',BK (Ak 2) (BV (CT (FD.t2 (Ab 2) (Ab 1) (CY Ma)) (FD.t2 (FD.e2 (Ab 0) (Ab 2) Cc) (FD.e2 (Ab 1) (Ab 2) Cc) (cI fun i j=>decide (j < i)))) (Ax (eC (.bl false)) []) Ar) ((ks L).map sD) [some (.sh (rD a)),some (.sh (rD b)),x]=if Bz L b=true then .ok .nx [some (.sh (rD a)),some (.sh (rD b)),x'] else .ok (.rt (.bl false)) [some (.sh (rD a)),some (.sh (rD b)),x']
 | [],x,_=>⟨x,rfl⟩
 | p :: L,x,h=>by
  obtain ⟨x',e⟩:=JO (b:=b) na L (some (.sh (sD p.1))) fun q hq=>h q (List.mem_cons_of_mem _ hq)
  have hb:Bz (p :: L) b=((match gt b p.1 with | some y=>decide (p.2≤y) | none=>false) && Bz L b):=rfl
  have ga:Cc (rD a) (sD p.1)=some (.int p.2):=by
   have:=VA a p.1
   rw [JZ na (h p List.mem_cons_self)] at this
   exact this
  have gb:Cc (rD b) (sD p.1)=(gt b p.1).map .int:=VA b p.1
  have gi:Ma (sD p.1) (rD b)=some (decide (p.1∈ks b)):=gIn b p.1
  rw [hb,show (ks (p :: L)).map sD=sD p.1 :: (ks L).map sD from rfl,D3]
  cases hg:gt b p.1 with
  | none=>
   have hk:p.1∉ks b:=Fy.mp hg
   rw [decide_eq_false hk] at gi
   refine ⟨some (.sh (sD p.1)),?_⟩
   simp! [gi]
  | some z=>
   have hk:p.1∈ks b:=GI (LY hg)
   rw [decide_eq_true hk] at gi
   rw [hg] at gb
   by_cases hz:z < p.2
   ·refine ⟨some (.sh (sD p.1)),?_⟩
    have hz':¬ p.2≤z:=by omega
    simp! [gi,ga,gb,hz,hz',decide_true,decide_false]
   ·refine ⟨x',?_⟩
    have hz':p.2≤z:=by omega
    simp! [gi,ga,gb,hz,hz',decide_true,decide_false,e]
theorem OF{a:Row}(b:Row)(na:(ks a).Nodup):AQ K cs [rD a,rD b]=.ok (.bl (Bz a b)):=by
 have ed:AQ K cs [rD a,rD b]=AR 3 (Eo K cs) [rD a,rD b]:=A6 rfl
 rw [ed]
 unfold Eo
 obtain ⟨x',e⟩:=JO (b:=b) na a none fun p hp=>hp
 cases hb:Bz a b with
 | true=>
  rw [hb,if_pos rfl] at e
  have hf:=NS (i:=0) (r:=a) (ρ:=[some (.sh (rD a)),some (.sh (rD b)),none]) rfl rfl e
  simp! [hf]
 | false=>
  rw [hb,if_neg (by decide)] at e
  have hf:=WG (i:=0) (r:=a) (ρ:=[some (.sh (rD a)),some (.sh (rD b)),none]) rfl rfl e
  simp! [hf]
theorem WI(i:List Dt):Du [.ptp i,.ty "tuple"]=some (.bl true):=FE i
theorem Tn(i:Int):Bl K cs [.int i]=.ok (.bl true):=by
 have ed:Bl K cs [.int i]=AR 1 (Dl K cs) [.int i]:=A6 rfl
 rw [ed]
 unfold Dl
 simp! []
theorem W2(k z:Kn):Hb .LtE (.str (S k)) (.str (S z))=some (!decide (z < k)):=by
 unfold Hb
 show (if PySem.W.alike (.str (S k)) (.str (S z))=true∧ZO (.str (S k))=false∧(PyData.str (S k)).depth≤60 then some (Yv .LtE (.str (S k)) (.str (S z))) else none)=_
 rw [if_pos ⟨by simp [PySem.W.alike],rfl,by simp [PyData.depth]⟩]
 show some (!PySem.W.dataLt (.str (S z)) (.str (S k)))=_
 rw [PySem.W.dataLt_str,Rn,Rn]
theorem NI{A:Row}{k:Kn}{x:Int}(h:k∉ks A):Cq A k x=A ++ [(k,x)]:=if_neg h
theorem K9{d0 d1 d2:Option Lo}:∀ (L A:Row) (z:Kn) (x5:Option Lo),(ks (A ++ L)).Nodup→(∀ p∈L,z < p.1)→Up L→A.length + L.length≤1000→∃ x4' x5',BK (Ak 5) (An (BV (CT (Bw (FD.t1 (eB Du (Aa (Ab 5) (Aa (eC (.ty "tuple")) Ah))) BN)) (FD.t2 (eB AN (Aa (Ab 5) Ah)) (eC (.int 2)) Jr)) (Ax (eC .non) []) Ar)
  (An (BV (CT (Bw (FD.t1 (eB Du (Aa (FD.e2 (Ab 5) (eC (.int 0)) A4) (Aa (eC (.ty "str")) Ah))) BN)) (CT (Bw (FD.t1 (Ao (Bl K cs) (Aa (FD.e2 (Ab 5) (eC (.int 1)) A4) Ah)) BN)) (FD.t2 (FD.e2 (Ab 5) (eC (.int 0)) A4) (Ab 4) (Hb .LtE)))) (Ax (eC .non) []) Ar)
  (An (B2 4 (FD.e2 (Ab 5) (eC (.int 0)) A4) [])
  (C7 3 (Ab 4) (FD.e2 (Ab 5) (eC (.int 1)) A4) [])))) (L.map M3) [d0,d1,d2,some (.od (By A) (Cd A)),some (.sh (.str (S z))),x5]=.ok .nx [d0,d1,d2,some (.od (By (A ++ L)) (Cd (A ++ L))),x4',x5']
 | [],A,z,x5,_,_,_,_=>⟨some (.sh (.str (S z))),x5,by rw [List.append_nil]; rfl⟩
 | p :: L,A,z,x5,nd,hz,up,hl=>by
  simp only [List.length_cons] at hl
  obtain ⟨u1,u2⟩:=List.pairwise_cons.mp up
  have e1:A ++ p :: L=(A ++ [p]) ++ L:=by rw [List.append_assoc]; rfl
  have hk:p.1∉ks A:=fun h=>by
   have:(ks A ++ p.1 :: ks L).Nodup:=by
    have e:ks (A ++ p :: L)=ks A ++ p.1 :: ks L:=by unfold ks; rw [List.map_append]; rfl
    rw [← e]; exact nd
   exact (List.nodup_append.mp this).2.2 p.1 h p.1 List.mem_cons_self rfl
  obtain ⟨x4',x5',e⟩:=K9 (d0:=d0) (d1:=d1) (d2:=d2) L (A ++ [p]) p.1 (some (.sh (M3 p))) (by rw [← e1]; exact nd) u1 u2 (by rw [List.length_append,List.length_singleton]; omega)
  have pk:D7 (By A) (Sum.inr (S p.1))=By (A ++ [p]):=(Nl A p.1 p.2).trans (by rw [NI hk])
  have pv:D6 (By A) (Cd A) (Sum.inr (S p.1)) (.int p.2)=Cd (A ++ [p]):=(N4 A p.1 p.2).trans (by rw [NI hk])
  have hkl:(By A).length < 16777216:=by rw [GZ]; omega
  refine ⟨x4',x5',?_⟩
  have i0:A4 (M3 p) (.int 0)=some (.str (S p.1)):=rfl
  have i1:A4 (M3 p) (.int 1)=some (.int p.2):=rfl
  have gi:Du [M3 p,.ty "tuple"]=some (.bl true):=FE _
  have gl:AN [M3 p]=some (.int 2):=rfl
  have lt:=W2 p.1 z
  rw [decide_eq_true (hz p List.mem_cons_self)] at lt
  rw [e1,List.map_cons,D3]
  simp! [gi,gl,i0,i1,Wx,Tn,lt,pk,pv,hkl,beq_self_eq_true]
  exact e
def QZ(r:Row):Prop:=Flat r∧r≠[]∧TC r∧r.length≤1000
theorem Yy{k:Kn}(h:k≠[]):([]:Kn) < k:=by
 cases k with
 | nil=>exact absurd rfl h
 | cons a l=>exact List.Lex.nil
theorem Ng{d0:Option Lo}:∀ (L A:List Row) (x2 x3 x4 x5:Option Lo),(∀ r∈L,QZ r)→A.length + L.length≤1000→∃ x2' x3' x4' x5',BK (Ak 2) (An (BV (CT (Bw (FD.t1 (eB Du (Aa (Ab 2) (Aa (eC (.ty "tuple")) Ah))) BN)) (FD.t2 (eB AN (Aa (Ab 2) Ah)) (eC (.int 0)) Fb)) (Ax (eC .non) []) Ar)
  (An (EI 3)
  (An (B2 4 (eC (.str "")) [])
  (An (Bj (Ak 5) (AO (Ab 2)) [2]
  (An (BV (CT (Bw (FD.t1 (eB Du (Aa (Ab 5) (Aa (eC (.ty "tuple")) Ah))) BN)) (FD.t2 (eB AN (Aa (Ab 5) Ah)) (eC (.int 2)) Jr)) (Ax (eC .non) []) Ar)
  (An (BV (CT (Bw (FD.t1 (eB Du (Aa (FD.e2 (Ab 5) (eC (.int 0)) A4) (Aa (eC (.ty "str")) Ah))) BN)) (CT (Bw (FD.t1 (Ao (Bl K cs) (Aa (FD.e2 (Ab 5) (eC (.int 1)) A4) Ah)) BN)) (FD.t2 (FD.e2 (Ab 5) (eC (.int 0)) A4) (Ab 4) (Hb .LtE)))) (Ax (eC .non) []) Ar)
  (An (B2 4 (FD.e2 (Ab 5) (eC (.int 0)) A4) [])
  (C7 3 (Ab 4) (FD.e2 (Ab 5) (eC (.int 1)) A4) [])))))
  (BR 1 (Ab 3) [3]))))) (L.map fD) [d0,some (.ol (A.map rD)),x2,x3,x4,x5]=.ok .nx [d0,some (.ol ((A ++ L).map rD)),x2',x3',x4',x5']
 | [],A,x2,x3,x4,x5,_,_=>⟨x2,x3,x4,x5,by rw [List.append_nil]; rfl⟩
 | r :: L,A,x2,x3,x4,x5,h,hl=>by
  simp only [List.length_cons] at hl
  obtain ⟨fl,ne,nm,sz⟩:=h r List.mem_cons_self
  obtain ⟨y4,y5,e1⟩:=K9 (d0:=d0) (d1:=some (.ol (A.map rD))) (d2:=some (.sh (fD r))) (K:=K) (cs:=cs) r [] [] x5 fl.nd (fun p hp=>Yy (nm p hp).ne) fl.rise (by simpa using sz)
  obtain ⟨x2',x3',x4',x5',e⟩:=Ng (d0:=d0) L (A ++ [r]) (some (.sh (fD r))) (some (.sh (rD r))) y4 y5 (fun q hq=>h q (List.mem_cons_of_mem _ hq)) (by rw [List.length_append,List.length_singleton]; omega)
  refine ⟨x2',x3',x4',x5',?_⟩
  have ea:A ++ r :: L=(A ++ [r]) ++ L:=by rw [List.append_assoc]; rfl
  have em:A.map rD ++ [rD r]=(A ++ [r]).map rD:=by rw [List.map_append]; rfl
  have hlen:(A.map rD).length < 16777216:=by rw [List.length_map]; omega
  have gi:Du [fD r,.ty "tuple"]=some (.bl true):=WI _
  have gl:AN [fD r]=some (.int r.length):=by unfold fD; rw [Pz,List.length_map]
  have hb:((r.length:Int) == (0:Int))=false:=beq_eq_false_iff_ne.mpr (by have:=List.length_pos_iff.mpr ne; omega)
  have he:Dt.str (S [])=Dt.str (Str.ofString ""):=by rw [Jl]; rfl
  rw [he] at e1
  have hf:Bj (Ak 5) (AO (Ab 2)) [2] (An (BV (CT (Bw (FD.t1 (eB Du (Aa (Ab 5) (Aa (eC (.ty "tuple")) Ah))) BN)) (FD.t2 (eB AN (Aa (Ab 5) Ah)) (eC (.int 2)) Jr)) (Ax (eC .non) []) Ar)
  (An (BV (CT (Bw (FD.t1 (eB Du (Aa (FD.e2 (Ab 5) (eC (.int 0)) A4) (Aa (eC (.ty "str")) Ah))) BN)) (CT (Bw (FD.t1 (Ao (Bl K cs) (Aa (FD.e2 (Ab 5) (eC (.int 1)) A4) Ah)) BN)) (FD.t2 (FD.e2 (Ab 5) (eC (.int 0)) A4) (Ab 4) (Hb .LtE)))) (Ax (eC .non) []) Ar)
  (An (B2 4 (FD.e2 (Ab 5) (eC (.int 0)) A4) [])
  (C7 3 (Ab 4) (FD.e2 (Ab 5) (eC (.int 1)) A4) [])))) [d0,some (.ol (A.map rD)),some (.sh (fD r)),some (.od [] []),some (.sh (.str (Str.ofString ""))),x5]=.ok .nx [d0,some (.ol (A.map rD)),some (.sh (fD r)),some (.od (By r) (Cd r)),y4,y5]:=e1
  have hz:AI (.dic (By r) (Cd r)) [3] [d0,some (.ol (A.map rD)),some (.sh (fD r)),some (.od (By r) (Cd r)),y4,y5]=[d0,some (.ol (A.map rD)),some (.sh (fD r)),some (.sh (rD r)),y4,y5]:=rfl
  have em:A.map rD ++ [.dic (By r) (Cd r)]=(A ++ [r]).map rD:=em
  rw [ea,List.map_cons,D3]
  simp! [gi,gl,hb,hf,hz,hlen,em]
  exact e
theorem UU{L:List Row}(h:∀ r∈L,QZ r)(h0:L≠[])(hl:L.length≤1000):DX K cs [.tup (L.map fD)]=.ok (.lst (L.map rD)):=by
 have ed:DX K cs [.tup (L.map fD)]=AR 6 (EK K cs) [.tup (L.map fD)]:=A6 rfl
 rw [ed]
 unfold EK
 obtain ⟨x2,x3,x4,x5,e⟩:=Ng (K:=K) (cs:=cs) (d0:=some (.sh (.tup (L.map fD)))) L [] none none none none h (by simpa using hl)
 have gl:AN [.tup (L.map fD)]=some (.int (L.length:Nat)):=by rw [OZ,List.length_map]
 have hb:((L.length:Int) == (0:Int))=false:=beq_eq_false_iff_ne.mpr (by have:=List.length_pos_iff.mpr h0; omega)
 have hf:Bj (Ak 2) (AO (Ab 0)) [0] (An (BV (CT (Bw (FD.t1 (eB Du (Aa (Ab 2) (Aa (eC (.ty "tuple")) Ah))) BN)) (FD.t2 (eB AN (Aa (Ab 2) Ah)) (eC (.int 0)) Fb)) (Ax (eC .non) []) Ar)
  (An (EI 3)
  (An (B2 4 (eC (.str "")) [])
  (An (Bj (Ak 5) (AO (Ab 2)) [2]
  (An (BV (CT (Bw (FD.t1 (eB Du (Aa (Ab 5) (Aa (eC (.ty "tuple")) Ah))) BN)) (FD.t2 (eB AN (Aa (Ab 5) Ah)) (eC (.int 2)) Jr)) (Ax (eC .non) []) Ar)
  (An (BV (CT (Bw (FD.t1 (eB Du (Aa (FD.e2 (Ab 5) (eC (.int 0)) A4) (Aa (eC (.ty "str")) Ah))) BN)) (CT (Bw (FD.t1 (Ao (Bl K cs) (Aa (FD.e2 (Ab 5) (eC (.int 1)) A4) Ah)) BN)) (FD.t2 (FD.e2 (Ab 5) (eC (.int 0)) A4) (Ab 4) (Hb .LtE)))) (Ax (eC .non) []) Ar)
  (An (B2 4 (FD.e2 (Ab 5) (eC (.int 0)) A4) [])
  (C7 3 (Ab 4) (FD.e2 (Ab 5) (eC (.int 1)) A4) [])))))
  (BR 1 (Ab 3) [3]))))) [some (.sh (.tup (L.map fD))),some (.ol []),none,none,none,none]=.ok .nx [some (.sh (.tup (L.map fD))),some (.ol (L.map rD)),x2,x3,x4,x5]:=e
 simp! [gl,hb,hf]
structure Lr (R:List Row):Prop where
 ne:R≠[]
 l:R.length≤100
 nd:∀ r∈R,(ks r).Nodup
 nn:∀ r∈R,r≠[]
 nm:∀ r∈R,TC r
 r:∀ r∈R,r.length≤100
theorem Lr.sz{R:List Row}(h:Lr R):Sz R:=⟨by have:=h.l; omega,fun r hr=>by have:=h.r r hr; omega,h.nd⟩
theorem Lr.rs{R:List Row}(h:Lr R):Rs R:=⟨h.ne,h.nn,h.nd⟩
theorem Mc:∀ (T Kp:List Row),(keep Kp T).length≤Kp.length + T.length
 | [],Kp=>Nat.le_refl _
 | r :: T,Kp=>by
  unfold keep
  split
  ·have:=Mc T Kp; rw [List.length_cons]; omega
  ·have:=Mc T (Kp ++ [r]); rw [List.length_append,List.length_singleton] at this; rw [List.length_cons]; omega
theorem Qd(R:List Row):(nf R).length≤R.length:=by
 have h1:=(rO.Er (keep [] (tO.sort (R.map flat)))).length_eq
 have h2:=(tO.Er (R.map flat)).length_eq
 have h3:=Mc (tO.sort (R.map flat)) []
 rw [List.length_map] at h2
 unfold nf lows
 rw [h1]
 simp only [List.length_nil] at h3
 omega
theorem Lr.nf{R:List Row}(h:Lr R):Lr (nf R)∧∀ l∈nf R,QZ l:=by
 obtain ⟨a1,a2,a3,a4⟩:=Ep h.nd
 have hf:∀ l∈Nf.nf R,l≠[]∧TC l∧l.length≤100:=fun l hl=>by
  obtain ⟨r,hr,rfl⟩:=a2 l hl
  exact ⟨Rk (h.nn r hr),fun p hp=>h.nm r hr p ((Cp r).mem_iff.mp hp),by rw [(Cp r).length_eq]; exact h.r r hr⟩
 refine ⟨⟨fun e=>?_,by have:=Qd R; have:=h.l; omega,fun l hl=>(a1.fl l hl).nd,fun l hl=>(hf l hl).1,fun l hl=>(hf l hl).2.1,fun l hl=>(hf l hl).2.2⟩,fun l hl=>⟨a1.fl l hl,(hf l hl).1,(hf l hl).2.1,by have:=(hf l hl).2.2; omega⟩⟩
 cases R with
 | nil=>exact h.ne rfl
 | cons r R=>
  obtain ⟨l,hl,_⟩:=a3 r List.mem_cons_self
  rw [e] at hl
  cases hl
theorem YF{k:Kn}(h:Nm k):(sP k).canLay0=true:=by
 unfold sP
 rw [PyData.canLay0]
 show (S k).cps.all (· < 0x110000)=true
 rw [← Array.all_toList,Rn]
 exact List.all_eq_true.mpr fun c hc=>decide_eq_true (by have:=h.ch c hc; omega)
theorem QG{p:Kn × Int}(h:Nm p.1):(pP p).canLay0=true:=by
 unfold pP
 rw [PyData.canLay0,PyData.canLayAll0,PyData.canLayAll0,YF h]
 simp [PyData.canLay0,PyData.canLayAll0]
theorem G0{α:Type}{g:α→PyData}:∀ {l:List α},(∀ a∈l,(g a).canLay0=true)→PyData.canLayAll0 (l.map g)=true
 | [],_=>by simp [PyData.canLayAll0]
 | a :: l,h=>by
  rw [List.map_cons,PyData.canLayAll0,h a List.mem_cons_self,G0 fun x hx=>h x (List.mem_cons_of_mem _ hx)]
  rfl
theorem MZ{r:Row}(h:TC r):SeqAt.shaped (rP r)=true:=by
 have:=LV r
 unfold SeqAt.shaped
 rw [decide_eq_true (by omega),Bool.and_true]
 unfold rP
 rw [PyData.canLay0]
 exact G0 fun p hp=>QG (h p hp)
theorem Uk{l:Row}{F:List Row}(hl:l∈F)(h:∀ r∈F,TC r):Mm (fD l) (.lst (F.map fD))=some true:=by
 unfold Mm
 rw [JP,Option.bind_some]
 show ((some (F.map fD)).bind fun es=>(Dt.Nd es).bind _)=_
 have hs:(F.map rP).all SeqAt.shaped=true:=List.all_eq_true.mpr fun x hx=>by
  obtain ⟨r,hr,rfl⟩:=List.mem_map.mp hx
  exact MZ (h r hr)
 rw [Option.bind_some,Ei F fun r _=>JP r,Option.bind_some,if_pos ⟨MZ (h l hl),hs⟩]
 have hy:((F.map rP).any fun e=>PyData.eqv e (rP l))=true:=List.any_eq_true.mpr ⟨rP l,List.mem_map.mpr ⟨l,hl,rfl⟩,(NU l l).trans (decide_eq_true rfl)⟩
 rw [hy]
theorem So(a b:Row):Hb .Lt (fD a) (fD b)=some (rO.lt a b):=by
 unfold Hb
 rw [JP,Option.bind_some,JP,Option.bind_some,if_pos ⟨IP a b,rfl,by have:=LV a; omega⟩]
 rfl
theorem YO{α:Type}(f:α→Bool)(l:List α):Mg [.lst (l.map fun a=>.bl (f a))]=some (.bl (l.any f)):=by
 have e:(l.map fun a=>Dt.bl (f a))=(l.map f).map .bl:=by rw [List.map_map]; rfl
 unfold Mg
 simp only
 rw [e,OR,Option.map_some,List.any_map]
 rfl
theorem Pm{α:Type}{f:α→Dt}{l:List α}{k:Nat}(h:k < l.length):atI (l.map f) (k:Int)=some (f l[k]):=by
 rw [FD.atI_nat,List.getElem?_map,List.getElem?_eq_getElem h]
 rfl
abbrev Rc(R L:List Row)(x4 x5 x6 x7:Option Lo):FD.Env:=[some (.sh (.tup (L.map fD))),some (.sh (.lst (R.map rD))),some (.sh (.lst (L.map rD))),some (.ol ((R.map flat).map fD)),x4,x5,x6,x7]
theorem O4{R L:List Row}(hn:∀ l∈L,(ks l).Nodup)(hac:AC L){k:Nat}(hk:k < L.length){x4 x7:Option Lo}:∀ (l:List Nat) (x6:Option Lo),(∀ n∈l,n < L.length)→∃ x6',BK (Ak 6) (BV (CH (FD.t2 (Ab 6) (Ab 5) Jr) (FD.t1 (Ao (AQ K cs) (Aa (FD.e2 (Ab 2) (Ab 6) A4) (Aa (FD.e2 (Ab 2) (Ab 5) A4) Ah))) BN)) (Ax (eC (.bl false)) []) Ar) (l.map fun n:Nat=>.int (n:Int)) (Rc R L x4 (some (.sh (.int (k:Int)))) x6 x7)=.ok .nx (Rc R L x4 (some (.sh (.int (k:Int)))) x6' x7)
 | [],x6,_=>⟨x6,rfl⟩
 | n :: l,x6,h=>by
  obtain ⟨x6',e⟩:=O4 hn hac hk (x4:=x4) (x7:=x7) (R:=R) l (some (.sh (.int (n:Int)))) fun m hm=>h m (List.mem_cons_of_mem _ hm)
  have hnl:=h n List.mem_cons_self
  refine ⟨x6',?_⟩
  rw [List.map_cons,Dx (ρ1:=Rc R L x4 (some (.sh (.int (k:Int)))) (some (.sh (.int (n:Int)))) x7) rfl]
  have e1:=Pm (f:=rD) hnl
  have e2:=Pm (f:=rD) hk
  have t:=OF (K:=K) (cs:=cs) (a:=L[n]) L[k] (hn _ (List.getElem_mem _))
  by_cases hnk:n=k
  ·have hb:((n:Int) == (k:Int))=true:=by rw [hnk]; exact beq_self_eq_true _
   simp! [hb]
   exact e
  ·have hb:((n:Int) == (k:Int))=false:=beq_eq_false_iff_ne.mpr (by omega)
   have hbf:Bz L[n] L[k]=false:=by
    cases hc:Bz L[n] L[k] with
    | false=>rfl
    | true=>
     have hbl:=(Fs (hn _ (List.getElem_mem hk))).mp hc
     have hp:=List.pairwise_iff_getElem.mp hac
     rcases Nat.lt_or_gt_of_ne hnk with z | z
     ·exact absurd hbl (hp n k hnl hk z).1
     ·exact absurd hbl (hp k n hk hnl z).2
   rw [hbf] at t
   simp! [hb,e1,e2,t]
   exact e
theorem Wh{R:List Row}(h:Lr R){k:Nat}(hk:k < (nf R).length){x4 x5 x6 x7:Option Lo}:∃ x6',(An (BV (CT (FD.t2 (FD.e2 (Ab 0) (Ab 5) A4) (Ab 3) (CY Mm)) (CH (FD.t2 (Ab 5) (eC (.int 0)) (cI fun i j=>decide (j < i))) (Bw (FD.t2 (FD.e2 (Ab 0) (FD.e2 (Ab 5) (eC (.int 1)) (Je (· - ·))) A4) (FD.e2 (Ab 0) (Ab 5) A4) (Hb .Lt))))) (Ax (eC (.bl false)) []) Ar)
  (Bj (Ak 6) (BP (Aa (eB AN (Aa (Ab 2) Ah)) Ah)) []
  (BV (CH (FD.t2 (Ab 6) (Ab 5) Jr) (FD.t1 (Ao (AQ K cs) (Aa (FD.e2 (Ab 2) (Ab 6) A4) (Aa (FD.e2 (Ab 2) (Ab 5) A4) Ah))) BN)) (Ax (eC (.bl false)) []) Ar))) (Rc R (nf R) x4 (some (.sh (.int (k:Int)))) x6 x7)=.ok .nx (Rc R (nf R) x4 (some (.sh (.int (k:Int)))) x6' x7):=by
 obtain ⟨a1,a2,a3,a4⟩:=Ep h.nd
 obtain ⟨x6',e⟩:=O4 (K:=K) (cs:=cs) (R:=R) (fun l hl=>(a1.fl l hl).nd) a1.ac hk (x4:=x4) (x7:=x7) (List.range (nf R).length) x6 fun n hn=>List.mem_range.mp hn
 refine ⟨x6',?_⟩
 have e1:=Pm (f:=fD) hk
 have gi:Mm (fD (nf R)[k]) (.lst ((R.map flat).map fD))=some true:=by
  refine Uk ?_ fun r hr=>?_
  ·obtain ⟨r,hr,e⟩:=a2 _ (List.getElem_mem hk)
   rw [e]
   exact List.mem_map.mpr ⟨r,hr,rfl⟩
  ·obtain ⟨x,hx,rfl⟩:=List.mem_map.mp hr
   exact fun p hp=>h.nm x hx p ((Cp x).mem_iff.mp hp)
 have gl:AN [.lst ((nf R).map rD)]=some (.int ((nf R).length:Nat)):=by rw [DT,List.length_map]
 have hs:Dz ((nf R).length:Int)=true:=L7 (by omega) (by have:=Qd R; have:=h.l; omega)
 have hf:Bj (Ak 6) (BP (Aa (eB AN (Aa (Ab 2) Ah)) Ah)) [] (BV (CH (FD.t2 (Ab 6) (Ab 5) Jr) (FD.t1 (Ao (AQ K cs) (Aa (FD.e2 (Ab 2) (Ab 6) A4) (Aa (FD.e2 (Ab 2) (Ab 5) A4) Ah))) BN)) (Ax (eC (.bl false)) []) Ar) (Rc R (nf R) x4 (some (.sh (.int (k:Int)))) x6 x7)=.ok .nx (Rc R (nf R) x4 (some (.sh (.int (k:Int)))) x6' x7):=by
  rw [CV]
  simp! [gl,Hn,hs,Int.toNat_natCast,Nu]
  exact e
 by_cases h0:0 < (k:Int)
 ·have ek:(k:Int) - 1=((k - 1:Nat):Int):=by omega
  have e2:=Pm (f:=fD) (l:=nf R) (k:=k - 1) (by omega)
  have lt:=So (nf R)[k - 1] (nf R)[k]
  have hup:rO.lt (nf R)[k - 1] (nf R)[k]=true:=List.pairwise_iff_getElem.mp a1.up (k - 1) k (by omega) hk (by omega)
  rw [hup] at lt
  simp! [e1,gi,h0,decide_true,ek,e2,lt]
  exact hf
 ·simp! [e1,gi,h0,decide_false]
  exact hf
theorem Q3{R:List Row}(h:Lr R){x5 x6:Option Lo}:∀ (Q:List Row) (x4 x7:Option Lo),(∀ r∈Q,r∈R)→∃ x4' x7',BK (Ak 4) (BV (Bw (FD.t1 (eB Mg (Aa (eL (EG (Ak 7) [7] AD (Ao (AQ K cs) (Aa (Ab 7) (Aa (Ab 4) Ah))) (AO (Ab 2)) [2])) Ah)) BN)) (Ax (eC (.bl false)) []) Ar) (Q.map rD) (Rc R (nf R) x4 x5 x6 x7)=.ok .nx (Rc R (nf R) x4' x5 x6 x7')
 | [],x4,x7,_=>⟨x4,x7,rfl⟩
 | r :: Q,x4,x7,hQ=>by
  obtain ⟨a1,a2,a3,a4⟩:=Ep h.nd
  obtain ⟨x4',x7',e⟩:=Q3 h (x5:=x5) (x6:=x6) Q (some (.sh (rD r))) x7 fun q hq=>hQ q (List.mem_cons_of_mem _ hq)
  refine ⟨x4',x7',?_⟩
  have hr:=hQ r List.mem_cons_self
  rw [List.map_cons,Dx (ρ1:=Rc R (nf R) (some (.sh (rD r))) x5 x6 x7) rfl]
  have hc:EG (Ak 7) [7] AD (Ao (AQ K cs) (Aa (Ab 7) (Aa (Ab 4) Ah))) (AO (Ab 2)) [2] (Rc R (nf R) (some (.sh (rD r))) x5 x6 x7)=.ok ((nf R).map fun l=>.bl (Bz l r)):=by
   refine Cg (e:=rD) rfl (by have:=Qd R; have:=h.l; omega) fun l hl=>⟨Rc R (nf R) (some (.sh (rD r))) x5 x6 (some (.sh (rD l))),rfl,?_⟩
   have t:=OF (K:=K) (cs:=cs) r (a1.fl l hl).nd
   simp! [t]
  have ha:=YO (fun l=>Bz l r) (nf R)
  have hy:((nf R).any fun l=>Bz l r)=true:=by
   obtain ⟨l,hl,b⟩:=a3 r hr
   exact List.any_eq_true.mpr ⟨l,hl,(Fs (h.nd r hr)).mpr b⟩
  rw [hy] at ha
  simp! [hc,ha]
  exact e
theorem Sr{R:List Row}(h:Lr R):DF K cs [.tup ((nf R).map fD),.lst (R.map rD)]=.ok (.bl true):=by
 have ed:DF K cs [.tup ((nf R).map fD),.lst (R.map rD)]=AR 8 (DJ K cs) [.tup ((nf R).map fD),.lst (R.map rD)]:=A6 rfl
 rw [ed]
 unfold DJ
 obtain ⟨hL,hF⟩:=h.nf
 have t1:=UU (K:=K) (cs:=cs) hF hL.ne (by have:=hL.l; omega)
 have hc:EG (Ak 4) [4] AD (Ao (DM K cs) (Aa (Ab 4) Ah)) (AO (Ab 1)) [1] [some (.sh (.tup ((nf R).map fD))),some (.sh (.lst (R.map rD))),some (.sh (.lst ((nf R).map rD))),none,none,none,none,none]=.ok ((R.map flat).map fD):=by
  rw [List.map_map]
  refine Cg (e:=rD) rfl (by have:=h.l; omega) fun r hr=>⟨[some (.sh (.tup ((nf R).map fD))),some (.sh (.lst (R.map rD))),some (.sh (.lst ((nf R).map rD))),none,some (.sh (rD r)),none,none,none],rfl,?_⟩
  simp! [Yq]
  rfl
 have gl:AN [.tup ((nf R).map fD)]=some (.int ((nf R).length:Nat)):=by rw [OZ,List.length_map]
 have hs:Dz ((nf R).length:Int)=true:=L7 (by omega) (by have:=hL.l; omega)
 obtain ⟨ρ1,e1,x5,x6,hρ⟩:=MH (E:=fun ρ=>∃ x5 x6,ρ=Rc R (nf R) none x5 x6 none) (u:=Ak 5) (b:=(An (BV (CT (FD.t2 (FD.e2 (Ab 0) (Ab 5) A4) (Ab 3) (CY Mm)) (CH (FD.t2 (Ab 5) (eC (.int 0)) (cI fun i j=>decide (j < i))) (Bw (FD.t2 (FD.e2 (Ab 0) (FD.e2 (Ab 5) (eC (.int 1)) (Je (· - ·))) A4) (FD.e2 (Ab 0) (Ab 5) A4) (Hb .Lt))))) (Ax (eC (.bl false)) []) Ar)
  (Bj (Ak 6) (BP (Aa (eB AN (Aa (Ab 2) Ah)) Ah)) []
  (BV (CH (FD.t2 (Ab 6) (Ab 5) Jr) (FD.t1 (Ao (AQ K cs) (Aa (FD.e2 (Ab 2) (Ab 6) A4) (Aa (FD.e2 (Ab 2) (Ab 5) A4) Ah))) BN)) (Ax (eC (.bl false)) []) Ar)))) (e:=fun n:Nat=>.int (n:Int)) (List.range (nf R).length) (fun k hk ρ ⟨x5,x6,hρ⟩=>by
  obtain ⟨x6',e⟩:=Wh (K:=K) (cs:=cs) h (List.mem_range.mp hk) (x4:=none) (x5:=none) (x6:=x6) (x7:=none)
  subst hρ
  exact ⟨_,_,rfl,e,_,_,rfl⟩) (Rc R (nf R) none none none none) ⟨none,none,rfl⟩
 subst hρ
 obtain ⟨x4',x7',e2⟩:=Q3 (K:=K) (cs:=cs) h (x5:=x5) (x6:=x6) R none none fun _ h=>h
 have hf1:Bj (Ak 5) (BP (Aa (eB AN (Aa (Ab 0) Ah)) Ah)) [] (An (BV (CT (FD.t2 (FD.e2 (Ab 0) (Ab 5) A4) (Ab 3) (CY Mm)) (CH (FD.t2 (Ab 5) (eC (.int 0)) (cI fun i j=>decide (j < i))) (Bw (FD.t2 (FD.e2 (Ab 0) (FD.e2 (Ab 5) (eC (.int 1)) (Je (· - ·))) A4) (FD.e2 (Ab 0) (Ab 5) A4) (Hb .Lt))))) (Ax (eC (.bl false)) []) Ar)
  (Bj (Ak 6) (BP (Aa (eB AN (Aa (Ab 2) Ah)) Ah)) []
  (BV (CH (FD.t2 (Ab 6) (Ab 5) Jr) (FD.t1 (Ao (AQ K cs) (Aa (FD.e2 (Ab 2) (Ab 6) A4) (Aa (FD.e2 (Ab 2) (Ab 5) A4) Ah))) BN)) (Ax (eC (.bl false)) []) Ar))) [some (.sh (.tup ((nf R).map fD))),some (.sh (.lst (R.map rD))),some (.sh (.lst ((nf R).map rD))),some (.ol ((R.map flat).map fD)),none,none,none,none]=.ok .nx [some (.sh (.tup ((nf R).map fD))),some (.sh (.lst (R.map rD))),some (.sh (.lst ((nf R).map rD))),some (.ol ((R.map flat).map fD)),none,x5,x6,none]:=by
  rw [CV]
  simp! [gl,Hn,hs,Int.toNat_natCast,Nu]
  exact e1
 have hf2:Bj (Ak 4) (AO (Ab 1)) [1] (BV (Bw (FD.t1 (eB Mg (Aa (eL (EG (Ak 7) [7] AD (Ao (AQ K cs) (Aa (Ab 7) (Aa (Ab 4) Ah))) (AO (Ab 2)) [2])) Ah)) BN)) (Ax (eC (.bl false)) []) Ar) [some (.sh (.tup ((nf R).map fD))),some (.sh (.lst (R.map rD))),some (.sh (.lst ((nf R).map rD))),some (.ol ((R.map flat).map fD)),none,x5,x6,none]=.ok .nx [some (.sh (.tup ((nf R).map fD))),some (.sh (.lst (R.map rD))),some (.sh (.lst ((nf R).map rD))),some (.ol ((R.map flat).map fD)),x4',x5,x6,x7']:=e2
 simp! [t1,FD.GA,hc,hf1,hf2]
theorem WW(r:Row):(fD r).pure=true:=by
 unfold fD
 rw [Dt.pure]
 induction r with
 | nil=>rfl
 | cons p r ih=>rw [List.map_cons,Dt.CA,ih]; rfl
theorem M7(L:List Row):(Dt.tup (L.map fD)).pure=true:=by
 rw [Dt.pure]
 induction L with
 | nil=>rfl
 | cons r L ih=>rw [List.map_cons,Dt.CA,ih,WW]; rfl
def GW(r:Row):Dt:=.lst (r.map M3)
def OO(r:Row):PyData:=.list (r.map pP)
theorem Uy(r:Row):(GW r).py=some (OO r):=by
 unfold GW
 rw [Dt.py,Ei r fun p _=>Qj p]
 rfl
theorem Wu(a b:Row):PyData.eqv (OO a) (OO b)=decide (a=b):=by
 unfold OO
 rw [PyData.eqv]
 exact Jj a b
theorem JJ{α:Type}{g:α→PyData}[DecidableEq α](h:∀ a b,PyData.eqv (g a) (g b)=decide (a=b)):∀ a b:List α,PyData.eqvAll (a.map g) (b.map g)=decide (a=b)
 | [],[]=>by simp [PyData.eqvAll]
 | [],q :: b=>by simp [PyData.eqvAll]
 | p :: a,[]=>by simp [PyData.eqvAll]
 | p :: a,q :: b=>by
  rw [List.map_cons,List.map_cons,PyData.eqvAll,h,JJ h a b]
  simp
theorem KW{R:List Row}(h:∀ r∈R,TC r):SeqAt.shaped (.list (R.map OO))=true:=by
 have h1:∀ r:Row,(OO r).depth≤2:=fun r=>by
  have:=Jg (g:=pP) (n:=1) (fun p=>by rw [Qg]; exact Nat.le_refl _) r
  unfold OO
  rw [PyData.depth]
  omega
 have h2:=Jg h1 R
 unfold SeqAt.shaped
 rw [decide_eq_true (by rw [PyData.depth]; omega),Bool.and_true,PyData.canLay0]
 refine G0 fun r hr=>?_
 unfold OO
 rw [PyData.canLay0]
 exact G0 fun p hp=>QG (h r hr p hp)
theorem Ru{A B:List Row}(ha:∀ r∈A,TC r)(hb:∀ r∈B,TC r):Fb (.lst (A.map GW)) (.lst (B.map GW))=some (decide (A=B)):=by
 show Sj _ _=_
 unfold Sj Dt.py
 rw [Ei A fun r _=>Uy r,Ei B fun r _=>Uy r]
 simp only [Option.map_some,Option.bind_some]
 rw [if_pos ⟨KW ha,KW hb⟩,PyData.eqv,JJ Wu]
theorem J1{L:List Row}(h:∀ r∈L,TC r):SeqAt.shaped (.tuple (L.map rP))=true:=by
 have h2:=Jg LV L
 unfold SeqAt.shaped
 rw [decide_eq_true (by rw [PyData.depth]; omega),Bool.and_true,PyData.canLay0]
 refine G0 fun r hr=>?_
 unfold rP
 rw [PyData.canLay0]
 exact G0 fun p hp=>QG (h r hr p hp)
theorem Pd{A B:List Row}(ha:∀ r∈A,TC r)(hb:∀ r∈B,TC r):Fb (.tup (A.map fD)) (.tup (B.map fD))=some (decide (A=B)):=by
 show Sj _ _=_
 unfold Sj Dt.py
 rw [Ei A fun r _=>JP r,Ei B fun r _=>JP r]
 simp only [Option.map_some,Option.bind_some]
 rw [if_pos ⟨J1 ha,J1 hb⟩,PyData.eqv,JJ NU]
theorem Ua{a b:Dt}{t:Bool}(h:Fb a b=some t):Jr a b=some (!t):=by
 rw [Yh]
 unfold CY
 rw [h]
 rfl
theorem Nn{R:List Row}(h:Lr R):Cv K cs [.lst (R.map rD)]=.ok (.tup ((nf R).map fD)):=by
 have ed:Cv K cs [.lst (R.map rD)]=AR 4 (EV K cs) [.lst (R.map rD)]:=A6 rfl
 rw [ed]
 unfold EV
 have hc1:EG (Ak 2) [2] AD (eB B4 (Aa (Ab 2) Ah)) (AO (Ab 0)) [0] [some (.sh (.lst (R.map rD))),none,none,none]=.ok (R.map rD):=
  Cg (e:=rD) rfl (by have:=h.l; omega) fun r hr=>⟨[some (.sh (.lst (R.map rD))),none,some (.sh (rD r)),none],rfl,rfl⟩
 have hit:∀ ρ:FD.Env,∀ r:Row,Ab 2 ρ=.ok (rD r)→eL (Cu (Ab 2)) ρ=.ok (GW r):=fun ρ r h=>by
  simp! [Jn,h,items]
  rfl
 have hc2:EG (Ak 2) [2] AD (eL (Cu (Ab 2))) (AO (Ab 1)) [1] [some (.sh (.lst (R.map rD))),some (.ol (R.map rD)),none,some (.sh (.tup ((nf R).map fD)))]=.ok (R.map GW):=
  Cg (e:=rD) rfl (by have:=h.l; omega) fun r hr=>⟨[some (.sh (.lst (R.map rD))),some (.sh (.lst (R.map rD))),some (.sh (rD r)),some (.sh (.tup ((nf R).map fD)))],rfl,hit _ r rfl⟩
 have hc3:EG (Ak 2) [2] AD (eL (Cu (Ab 2))) (AO (Ab 0)) [0] [some (.sh (.lst (R.map rD))),some (.ol (R.map rD)),none,some (.sh (.tup ((nf R).map fD)))]=.ok (R.map GW):=
  Cg (e:=rD) rfl (by have:=h.l; omega) fun r hr=>⟨[some (.sh (.lst (R.map rD))),some (.ol (R.map rD)),some (.sh (rD r)),some (.sh (.tup ((nf R).map fD)))],rfl,hit _ r rfl⟩
 have t1:=(RO (K:=K) (cs:=cs) h.sz).1 h.ne h.nn
 have t2:=Sr (K:=K) (cs:=cs) h
 have hz:∀ lk ρ,AI (.tup ((nf R).map fD)) lk ρ=ρ:=fun lk ρ=>Na (M7 _)
 have q:=Ua (Ru h.nm h.nm)
 rw [decide_eq_true rfl] at q
 simp! [hc1,FD.CD,t1,hz,hc2,hc3,q,t2]
theorem keys_map(r:Row):(ks r).map sD=r.map fun p=>sD p.1:=by
 unfold ks
 rw [List.map_map]
 rfl
theorem Pw{i:Nat}{u:Dt→FD.Env→Option FD.Env}{vs:List Nat}{f:FD.Env→Out Dt}{ρ:FD.Env}{r:Row}{g:Kn × Int→Dt}(hi:ρ[i]? = some (some (.sh (rD r))))(hl:r.length≤16777216)(h:∀ p∈r,∃ ρ1,u (sD p.1) (Br (frz [i] ρ) vs)=some ρ1∧f ρ1=.ok (g p)):
  MB i u vs AD f ρ=.ok (r.map g):=by
 have e:Ca i ρ=.ok (r.map fun p=>sD p.1):=by
  unfold Ca
  rw [hi]
  show Out.ok ((By r).map Iq)=_
  rw [Iz,keys_map]
 unfold MB
 rw [Cg (e:=fun p:Kn × Int=>sD p.1) (g:=g) e hl h]
theorem Li{α:Type}(f:α→Int){l:List α}(h:l≠[]):Gp [.lst (l.map fun a=>.int (f a))]=some (.int (F6 (l.map f))):=by
 have e:(l.map fun a=>Dt.int (f a))=(l.map f).map .int:=by rw [List.map_map]; rfl
 unfold Gp
 show ((some (l.map fun a=>Dt.int (f a))).bind fun ds=>(F2 ds).bind fun ns=>if ns=[] then none else some (Dt.int (F6 ns)))=_
 rw [Option.bind_some,e,Fh,Option.bind_some,if_neg (by simpa using h)]
theorem T8{α:Type}(f:α→Int){l:List α}(h:l≠[]):JQ [.lst (l.map fun a=>.int (f a))]=some (.int (Mf (l.map f))):=by
 have e:(l.map fun a=>Dt.int (f a))=(l.map f).map .int:=by rw [List.map_map]; rfl
 unfold JQ
 show ((some (l.map fun a=>Dt.int (f a))).bind fun ds=>(F2 ds).bind fun ns=>if ns=[] then none else some (Dt.int (Mf ns)))=_
 rw [Option.bind_some,e,Fh,Option.bind_some,if_neg (by simpa using h)]
theorem O6{r P:Row}{f:Kn→Int}(n:(ks r).Nodup)(h0:r≠[])(hl:r.length≤1000)(h:∀ k∈ks r,gt P k=some (f k)):B6 K cs [rD r,rD P]=.ok (.int (mx r f)):=by
 have ed:B6 K cs [rD r,rD P]=AR 3 (CC K cs) [rD r,rD P]:=A6 rfl
 rw [ed]
 unfold CC
 have hc:MB 0 (Ak 2) [2] AD (FD.e2 (FD.e2 (Ab 1) (Ab 2) Cc) (FD.e2 (Ab 0) (Ab 2) Cc) AJ) [some (.sh (rD r)),some (.sh (rD P)),none]=.ok (r.map fun p=>.int (f p.1 + p.2)):=by
  refine Pw (r:=r) rfl (by omega) fun p hp=>⟨[some (.sh (rD r)),some (.sh (rD P)),some (.sh (sD p.1))],rfl,?_⟩
  have g1:Cc (rD r) (sD p.1)=some (.int p.2):=by
   have:=VA r p.1
   rw [JZ n hp] at this
   exact this
  have g2:Cc (rD P) (sD p.1)=some (.int (f p.1)):=by
   have:=VA P p.1
   rw [h p.1 (GI hp)] at this
   exact this
  simp! [g1,g2]
 simp! [hc,Li (fun p:Kn × Int=>f p.1 + p.2) h0]
 rfl
theorem Ko{R:List Row}{P:Row}{f:Kn→Int}(h:Lr R)(hp:∀ r∈R,∀ k∈ks r,gt P k=some (f k)):Au K cs [.lst (R.map rD),rD P]=.ok (.int (vl R f)):=by
 have ed:Au K cs [.lst (R.map rD),rD P]=AR 3 (Em K cs) [.lst (R.map rD),rD P]:=A6 rfl
 rw [ed]
 unfold Em
 have hc:EG (Ak 2) [2] AD (Ao (B6 K cs) (Aa (Ab 2) (Aa (Ab 1) Ah))) (AO (Ab 0)) [0] [some (.sh (.lst (R.map rD))),some (.sh (rD P)),none]=.ok (R.map fun r=>.int (mx r f)):=by
  refine Cg (e:=rD) rfl (by have:=h.l; omega) fun r hr=>⟨[some (.sh (.lst (R.map rD))),some (.sh (rD P)),some (.sh (rD r))],rfl,?_⟩
  have t:=O6 (K:=K) (cs:=cs) (P:=P) (f:=f) (h.nd r hr) (h.nn r hr) (by have:=h.r r hr; omega) (hp r hr)
  simp! [t]
 simp! [hc,T8 (fun r:Row=>mx r f) h.ne]
 rfl
def ab(x:Int):Int:=if x < 0 then -x else x
theorem Zx{R:List Row}(h:Lr R):∃ F:Int,Fv K cs [.lst (R.map rD)]=.ok (.int F)∧∀ r∈R,∀ p∈r,0 < F + p.2:=by
 have ed:Fv K cs [.lst (R.map rD)]=AR 3 (FG K cs) [.lst (R.map rD)]:=A6 rfl
 rw [ed]
 unfold FG
 refine ⟨1 + F6 (R.map fun r=>F6 (r.map fun p=>ab p.2)),?_,fun r hr p hp=>?_⟩
 ·have hc:(EG (Ak 1) [1] AD (eB Gp (Aa (eL (MB 1 (Ak 2) [2] AD (eB NZ (Aa (FD.e2 (Ab 1) (Ab 2) Cc) Ah)))) Ah)) (AO (Ab 0)) [0]) [some (.sh (.lst (R.map rD))),none,none]=.ok (R.map fun r=>.int (F6 (r.map fun p=>ab p.2))):=by
   refine Cg (e:=rD) rfl (by have:=h.l; omega) fun r hr=>⟨[some (.sh (.lst (R.map rD))),some (.sh (rD r)),none],rfl,?_⟩
   have hi:MB 1 (Ak 2) [2] AD (eB NZ (Aa (FD.e2 (Ab 1) (Ab 2) Cc) Ah)) [some (.sh (.lst (R.map rD))),some (.sh (rD r)),none]=.ok (r.map fun p=>.int (ab p.2)):=by
    refine Pw (r:=r) rfl (by have:=h.r r hr; omega) fun p hp=>⟨[some (.sh (.lst (R.map rD))),some (.sh (rD r)),some (.sh (sD p.1))],rfl,?_⟩
    have g1:Cc (rD r) (sD p.1)=some (.int p.2):=by
     have:=VA r p.1
     rw [JZ (h.nd r hr) hp] at this
     exact this
    simp! [g1]
    rfl
   simp! [hi,Li (fun p:Kn × Int=>ab p.2) (h.nn r hr)]
  simp! [hc,Li (fun r:Row=>F6 (r.map fun p=>ab p.2)) h.ne]
 ·have m1:=(E5 (l:=r.map fun p=>ab p.2) (by simpa using h.nn r hr)).2 _ (List.mem_map.mpr ⟨p,hp,rfl⟩)
  have m2:=(E5 (l:=R.map fun r=>F6 (r.map fun p=>ab p.2)) (by simpa using h.ne)).2 _ (List.mem_map.mpr ⟨r,hr,rfl⟩)
  have m2:F6 (r.map fun p=>ab p.2)≤F6 (R.map fun r=>F6 (r.map fun p=>ab p.2)):=m2
  unfold ab at *
  split at m1 <;> omega
theorem NN(r:Row)(k:Kn)(x:Int):(Cq r k x).length≤r.length + 1:=by
 unfold Cq
 split
 ·rw [List.length_map]; omega
 ·rw [List.length_append,List.length_singleton]; exact Nat.le_refl _
theorem JX{F:Int}{d0 d1:Option Lo}:∀ (L:List Kn) (P:Row) (x:Option Lo),P.length + L.length≤1000→∃ (P':Row) (x':Option Lo),BK (Ak 4) (C7 3 (Ab 4) (Ab 2) [2]) (L.map sD) [d0,d1,some (.sh (.int F)),some (.od (By P) (Cd P)),x]=.ok .nx [d0,d1,some (.sh (.int F)),some (.od (By P') (Cd P')),x']∧P'.length≤P.length + L.length∧(∀ k∈L,gt P' k=some F)∧∀ k,k∉L→gt P' k=gt P k
 | [],P,x,_=>⟨P,x,rfl,Nat.le_refl _,(fun k h=>nomatch h),fun k _=>rfl⟩
 | k :: L,P,x,hl=>by
  simp only [List.length_cons] at hl
  have lp:=NN P k F
  obtain ⟨P',x',e,h1,h2,h3⟩:=JX (F:=F) (d0:=d0) (d1:=d1) L (Cq P k F) (some (.sh (sD k))) (by omega)
  refine ⟨P',x',?_,by rw [List.length_cons]; omega,fun j hj=>?_,fun j hj=>?_⟩
  ·have hp:=Yz (i:=3) (fk:=Ab 4) (f:=Ab 2) (lk:=[2]) (ρ:=[d0,d1,some (.sh (.int F)),some (.od (By P) (Cd P)),some (.sh (sD k))]) (r:=P) (k:=k) (x:=F) rfl rfl rfl (by omega)
   rw [List.map_cons,Dx (ρ1:=[d0,d1,some (.sh (.int F)),some (.od (By P) (Cd P)),some (.sh (sD k))]) rfl,hp]
   exact e
  ·by_cases hm:j∈L
   ·exact h2 j hm
   ·rcases List.mem_cons.mp hj with rfl | z
    ·rw [h3 j hm,NA,if_pos rfl]
    ·exact absurd z hm
  ·have hm:j∉L:=fun z=>hj (List.mem_cons_of_mem _ z)
   rw [h3 j hm,NA,if_neg fun z=>hj (by rw [z]; exact List.mem_cons_self)]
theorem JS{r:Row}(n:(ks r).Nodup){d1 d2:Option Lo}:∀ (L P:Row) (x:Option Lo),(∀ p∈L,p∈r)→P.length + L.length≤1000→∃ (P':Row) (x':Option Lo),BK (Ak 4) (C7 3 (Ab 4) (FD.e2 (eC (.int 0)) (FD.e2 (Ab 0) (Ab 4) Cc) (Je (· - ·))) []) ((ks L).map sD) [some (.sh (rD r)),d1,d2,some (.od (By P) (Cd P)),x]=.ok .nx [some (.sh (rD r)),d1,d2,some (.od (By P') (Cd P')),x']∧(∀ k∈ks L,gt P' k=(gt r k).map fun x=>0 - x)∧∀ k,k∉ks L→gt P' k=gt P k
 | [],P,x,_,_=>⟨P,x,rfl,(fun k h=>nomatch h),fun k _=>rfl⟩
 | p :: L,P,x,hr,hl=>by
  simp only [List.length_cons] at hl
  have lp:=NN P p.1 (0 - p.2)
  have gp:=JZ n (hr p List.mem_cons_self)
  obtain ⟨P',x',e,h2,h3⟩:=JS n (d1:=d1) (d2:=d2) L (Cq P p.1 (0 - p.2)) (some (.sh (sD p.1))) (fun q hq=>hr q (List.mem_cons_of_mem _ hq)) (by omega)
  refine ⟨P',x',?_,fun j hj=>?_,fun j hj=>?_⟩
  ·have g1:Cc (rD r) (sD p.1)=some (.int p.2):=by
    have:=VA r p.1
    rw [gp] at this
    exact this
   have hp:=Yz (i:=3) (fk:=Ab 4) (f:=FD.e2 (eC (.int 0)) (FD.e2 (Ab 0) (Ab 4) Cc) (Je (· - ·))) (lk:=[]) (ρ:=[some (.sh (rD r)),d1,d2,some (.od (By P) (Cd P)),some (.sh (sD p.1))]) (r:=P) (k:=p.1) (x:=0 - p.2) (by simp! [g1]) rfl rfl (by omega)
   rw [show (ks (p :: L)).map sD=sD p.1 :: (ks L).map sD from rfl,Dx (ρ1:=[some (.sh (rD r)),d1,d2,some (.od (By P) (Cd P)),some (.sh (sD p.1))]) rfl,hp]
   exact e
  ·by_cases hm:j∈ks L
   ·exact h2 j hm
   ·rcases List.mem_cons.mp (show j∈p.1 :: ks L from hj) with rfl | z
    ·rw [h3 _ hm,NA,if_pos rfl,gp]
     rfl
    ·exact absurd z hm
  ·have hm:j∉ks L:=fun z=>hj (List.mem_cons_of_mem _ z)
   rw [h3 j hm,NA,if_neg fun z=>hj (by rw [z]; exact List.mem_cons_self)]
theorem Wz{r:Row}(n:(ks r).Nodup)(hl:r.length≤100){N:List Kn}(hN:N.length≤100)(F:Int):∃ P:Row,Ci K cs [rD r,.lst (N.map sD),.int F]=.ok (rD P)∧∀ k∈N,gt P k=some (M5 r F k):=by
 have ed:Ci K cs [rD r,.lst (N.map sD),.int F]=AR 5 (Ed K cs) [rD r,.lst (N.map sD),.int F]:=A6 rfl
 rw [ed]
 unfold Ed
 obtain ⟨P1,x1,e1,l1,h1,h2⟩:=JX (F:=F) (d0:=some (.sh (rD r))) (d1:=some (.sh (.lst (N.map sD)))) N [] none (by simp only [List.length_nil]; omega)
 simp only [List.length_nil] at l1
 obtain ⟨P2,x2,e2,h3,h4⟩:=JS n (d1:=some (.sh (.lst (N.map sD)))) (d2:=some (.sh (.int F))) r P1 x1 (fun _ h=>h) (by omega)
 refine ⟨P2,?_,fun k hk=>?_⟩
 ·have hf1:Bj (Ak 4) (AO (Ab 1)) [1] (C7 3 (Ab 4) (Ab 2) [2]) [some (.sh (rD r)),some (.sh (.lst (N.map sD))),some (.sh (.int F)),some (.od [] []),none]=.ok .nx [some (.sh (rD r)),some (.sh (.lst (N.map sD))),some (.sh (.int F)),some (.od (By P1) (Cd P1)),x1]:=e1
  have hf2:=NS (i:=0) (r:=r) (ρ:=[some (.sh (rD r)),some (.sh (.lst (N.map sD))),some (.sh (.int F)),some (.od (By P1) (Cd P1)),x1]) rfl rfl e2
  simp! [hf1,hf2]
  rfl
 ·by_cases hm:k∈ks r
  ·rw [h3 k hm]
   unfold M5
   cases e:gt r k with
   | none=>exact absurd hm (Fy.mp e)
   | some x=>rfl
  ·rw [h4 k hm,h1 k hk]
   unfold M5
   rw [Fy.mpr hm]
theorem Lr.app{R S:List Row}(h:Lr R)(h':Lr S)(hl:(R ++ S).length≤100):Lr (R ++ S):=⟨fun e=>h.ne (List.append_eq_nil_iff.mp e).1,hl,fun r hr=>(List.mem_append.mp hr).elim (h.nd r) (h'.nd r),fun r hr=>(List.mem_append.mp hr).elim (h.nn r) (h'.nn r),fun r hr=>(List.mem_append.mp hr).elim (h.nm r) (h'.nm r),fun r hr=>(List.mem_append.mp hr).elim (h.r r) (h'.r r)⟩
def agB(R S:List Row)(F:Int)(r:Row):Bool:=decide (vl R (M5 r F)=vl S (M5 r F))
theorem Lz{R S:List Row}(hR:Lr R)(hS:Lr S){N:List Kn}(hN:N.length≤100)(sub:∀ r∈R ++ S,∀ k∈ks r,k∈N){F:Int}:∀ (Q:List Row) (x4 x5:Option Lo),(∀ r∈Q,r∈R ++ S)→∃ x4' x5',BK (Ak 4) (An (B2 5 (Ao (Ci K cs) (Aa (Ab 4) (Aa (Ab 2) (Aa (Ab 3) Ah)))) [4,2,3])
  (BV (FD.t2 (Ao (Au K cs) (Aa (Ab 0) (Aa (Ab 5) Ah))) (Ao (Au K cs) (Aa (Ab 1) (Aa (Ab 5) Ah))) Jr) (Ax (eC (.bl false)) []) Ar)) (Q.map rD) [some (.sh (.lst (R.map rD))),some (.sh (.lst (S.map rD))),some (.sh (.lst (N.map sD))),some (.sh (.int F)),x4,x5]=if Q.all (agB R S F)=true then .ok .nx [some (.sh (.lst (R.map rD))),some (.sh (.lst (S.map rD))),some (.sh (.lst (N.map sD))),some (.sh (.int F)),x4',x5'] else .ok (.rt (.bl false)) [some (.sh (.lst (R.map rD))),some (.sh (.lst (S.map rD))),some (.sh (.lst (N.map sD))),some (.sh (.int F)),x4',x5']
 | [],x4,x5,_=>⟨x4,x5,rfl⟩
 | r :: Q,x4,x5,hQ=>by
  have hr:=hQ r List.mem_cons_self
  have nd:(ks r).Nodup:=(List.mem_append.mp hr).elim (hR.nd r) (hS.nd r)
  have lr:r.length≤100:=(List.mem_append.mp hr).elim (hR.r r) (hS.r r)
  obtain ⟨P,t1,hP⟩:=Wz (K:=K) (cs:=cs) nd lr hN F
  have t2:=Ko (K:=K) (cs:=cs) (P:=P) (f:=M5 r F) hR fun q hq k hk=>hP k (sub q (List.mem_append_left _ hq) k hk)
  have t3:=Ko (K:=K) (cs:=cs) (P:=P) (f:=M5 r F) hS fun q hq k hk=>hP k (sub q (List.mem_append_right _ hq) k hk)
  obtain ⟨x4',x5',e⟩:=Lz hR hS hN sub (F:=F) Q (some (.sh (rD r))) (some (.sh (rD P))) fun q hq=>hQ q (List.mem_cons_of_mem _ hq)
  have hz:AI (rD P) [4,2,3] [some (.sh (.lst (R.map rD))),some (.sh (.lst (S.map rD))),some (.sh (.lst (N.map sD))),some (.sh (.int F)),some (.sh (rD r)),x5]=[some (.sh (.lst (R.map rD))),some (.sh (.lst (S.map rD))),some (.sh (.lst (N.map sD))),some (.sh (.int F)),some (.sh (rD r)),x5]:=DG rfl
  rw [List.map_cons,D3,List.all_cons]
  by_cases hv:vl R (M5 r F)=vl S (M5 r F)
  ·refine ⟨x4',x5',?_⟩
   have hb:agB R S F r=true:=decide_eq_true hv
   simp! [t1,hz,t2,t3,hv,beq_self_eq_true,hb]
   exact e
  ·refine ⟨some (.sh (rD r)),some (.sh (rD P)),?_⟩
   have hb:agB R S F r=false:=decide_eq_false hv
   have hb2:(vl R (M5 r F) == vl S (M5 r F))=false:=beq_eq_false_iff_ne.mpr hv
   simp! [t1,hz,t2,t3,hb2,hb]
theorem W7{R S:List Row}(hR:Lr R)(hS:Lr S){N:List Kn}(hN:N.length≤100)(hl:(R ++ S).length≤100)(sub:∀ r∈R ++ S,∀ k∈ks r,k∈N):Eg K cs [.lst (R.map rD),.lst (S.map rD),.lst (N.map sD)]=.ok (.bl (decide (nf R=nf S))):=by
 have ed:Eg K cs [.lst (R.map rD),.lst (S.map rD),.lst (N.map sD)]=AR 6 (D9 K cs) [.lst (R.map rD),.lst (S.map rD),.lst (N.map sD)]:=A6 rfl
 rw [ed]
 unfold D9
 have hA:=hR.app hS hl
 obtain ⟨F,t1,hF⟩:=Zx (K:=K) (cs:=cs) hA
 have hAB:AJ (.lst (R.map rD)) (.lst (S.map rD))=some (.lst ((R ++ S).map rD)):=by
  rw [List.length_append] at hl
  rw [IC,List.length_map,List.length_map,if_pos (by omega),List.map_append]
 obtain ⟨x4,x5,e⟩:=Lz (K:=K) (cs:=cs) hR hS hN sub (F:=F) (R ++ S) none none fun _ h=>h
 have hf:Bj (Ak 4) (AO (FD.e2 (Ab 0) (Ab 1) AJ)) [0,1] (An (B2 5 (Ao (Ci K cs) (Aa (Ab 4) (Aa (Ab 2) (Aa (Ab 3) Ah)))) [4,2,3])
  (BV (FD.t2 (Ao (Au K cs) (Aa (Ab 0) (Aa (Ab 5) Ah))) (Ao (Au K cs) (Aa (Ab 1) (Aa (Ab 5) Ah))) Jr) (Ax (eC (.bl false)) []) Ar)) [some (.sh (.lst (R.map rD))),some (.sh (.lst (S.map rD))),some (.sh (.lst (N.map sD))),some (.sh (.int F)),none,none]=BK (Ak 4) (An (B2 5 (Ao (Ci K cs) (Aa (Ab 4) (Aa (Ab 2) (Aa (Ab 3) Ah)))) [4,2,3])
  (BV (FD.t2 (Ao (Au K cs) (Aa (Ab 0) (Aa (Ab 5) Ah))) (Ao (Au K cs) (Aa (Ab 1) (Aa (Ab 5) Ah))) Jr) (Ax (eC (.bl false)) []) Ar)) ((R ++ S).map rD) [some (.sh (.lst (R.map rD))),some (.sh (.lst (S.map rD))),some (.sh (.lst (N.map sD))),some (.sh (.int F)),none,none]:=by
  rw [CV]
  simp! [hAB]
 rw [e] at hf
 have key:(R ++ S).all (agB R S F)=true ↔ nf R=nf S:=by
  rw [Ys hR.nd hS.nd,← Tq hR.rs hS.rs hF,List.all_eq_true]
  exact ⟨fun h r hr=>of_decide_eq_true (h r hr),fun h r hr=>decide_eq_true (h r hr)⟩
 by_cases hn:nf R=nf S
 ·rw [if_pos (key.mpr hn)] at hf
  simp! [hAB,t1,hf,decide_eq_true hn]
 ·rw [if_neg fun z=>hn (key.mp z)] at hf
  simp! [hAB,t1,hf,decide_eq_false hn]
theorem MR{r:Row}(n:(ks r).Nodup):∀ (L A:Row) (x:Option Lo),(∀ p∈L,p∈r)→(ks (A ++ L)).Nodup→A.length + L.length≤1000→∃ x',BK (Ak 2) (C7 1 (Ab 2) (FD.e2 (Ab 0) (Ab 2) Cc) [0,2]) ((ks L).map sD) [some (.sh (rD r)),some (.od (By A) (Cd A)),x]=.ok .nx [some (.sh (rD r)),some (.od (By (A ++ L)) (Cd (A ++ L))),x']
 | [],A,x,_,_,_=>⟨x,by rw [List.append_nil]; rfl⟩
 | p :: L,A,x,hr,nd,hl=>by
  simp only [List.length_cons] at hl
  have e1:A ++ p :: L=(A ++ [p]) ++ L:=by rw [List.append_assoc]; rfl
  have hk:p.1∉ks A:=fun h=>by
   have:(ks A ++ p.1 :: ks L).Nodup:=by
    have e:ks (A ++ p :: L)=ks A ++ p.1 :: ks L:=by unfold ks; rw [List.map_append]; rfl
    rw [← e]; exact nd
   exact (List.nodup_append.mp this).2.2 p.1 h p.1 List.mem_cons_self rfl
  obtain ⟨x',e⟩:=MR n L (A ++ [p]) (some (.sh (sD p.1))) (fun q hq=>hr q (List.mem_cons_of_mem _ hq)) (by rw [← e1]; exact nd) (by rw [List.length_append,List.length_singleton]; omega)
  refine ⟨x',?_⟩
  have g1:Cc (rD r) (sD p.1)=some (.int p.2):=by
   have:=VA r p.1
   rw [JZ n (hr p List.mem_cons_self)] at this
   exact this
  have hp:=Yz (i:=1) (fk:=Ab 2) (f:=FD.e2 (Ab 0) (Ab 2) Cc) (lk:=[0,2]) (ρ:=[some (.sh (rD r)),some (.od (By A) (Cd A)),some (.sh (sD p.1))]) (r:=A) (k:=p.1) (x:=p.2) (by simp! [g1]) rfl rfl (by omega)
  rw [NI hk] at hp
  rw [e1,show (ks (p :: L)).map sD=sD p.1 :: (ks L).map sD from rfl,Dx (ρ1:=[some (.sh (rD r)),some (.od (By A) (Cd A)),some (.sh (sD p.1))]) rfl,hp]
  exact e
theorem Vn{r:Row}(n:(ks r).Nodup)(hl:r.length≤100):CS K cs [rD r]=.ok (rD r.reverse):=by
 have ed:CS K cs [rD r]=AR 3 (DH K cs) [rD r]:=A6 rfl
 rw [ed]
 unfold DH
 have hrev:(ks r.reverse)=(ks r).reverse:=by unfold ks; rw [List.map_reverse]
 obtain ⟨x',e⟩:=MR n r.reverse [] none (fun p hp=>List.mem_reverse.mp hp) (by rw [List.nil_append,hrev]; exact (List.reverse_perm _).nodup_iff.mpr n) (by rw [List.length_reverse]; simp only [List.length_nil]; omega)
 have gk:GY [rD r]=some ((ks r).map sD):=by
  show some ((By r).map Iq)=_
  rw [Iz]
 have hf:Bj (Ak 2) (AO (eL (Qn (eL (lB GY (Aa (Ab 0) Ah)))))) [0] (C7 1 (Ab 2) (FD.e2 (Ab 0) (Ab 2) Cc) [0,2]) [some (.sh (rD r)),some (.od [] []),none]=.ok .nx [some (.sh (rD r)),some (.od (By r.reverse) (Cd r.reverse)),x']:=by
  rw [CV]
  simp! [gk]
  rw [← List.map_reverse,← hrev]
  exact e
 simp! [hf]
 rfl
def rC(r:Row):Cell:=.dic (By r) (Cd r)
abbrev WR(x0 x1 x2 x3 x4 x5 x6 x7 x8:Option Lo)(C:List Cell):FD.Env:=[x0,x1,x2,x3,x4,x5,x6,x7,x8,some (.mh C)]
def CN:Option Nat × Row→Dt
 | (some k,_)=>.ad k
 | (none,r)=>rD r
def Dw:Nat→List Row→List (Option Nat × Row)
 | _,[]=>[]
 | m,r :: R=>(some m,r) :: Dw (m + 1) R
theorem Ig:∀ (R:List Row) (m:Nat),(Dw m R).map (·.2)=R
 | [],_=>rfl
 | r :: R,m=>by unfold Dw; rw [List.map_cons,Ig R (m + 1)]
theorem Om(R:List Row)(m:Nat):(Dw m R).length=R.length:=by
 have:=congrArg List.length (Ig R m)
 rw [List.length_map] at this
 exact this
theorem Rx:∀ {R:List Row} {m:Nat} {o:Option Nat} {r:Row},(o,r)∈Dw m R→∃ i,o=some (m + i)∧R[i]? = some r
 | [],_,_,_,h=>nomatch h
 | q :: R,m,o,r,h=>by
  unfold Dw at h
  rcases List.mem_cons.mp h with e | h
  ·cases e
   exact ⟨0,rfl,rfl⟩
  ·obtain ⟨i,e,hi⟩:=Rx h
   exact ⟨i + 1,by rw [e]; congr 1; omega,hi⟩
theorem QB:∀ {R:List Row} {m k:Nat},k∈(Dw m R).filterMap (·.1)→m≤k∧k < m + R.length
 | [],_,_,h=>nomatch h
 | q :: R,m,k,h=>by
  unfold Dw at h
  rw [List.filterMap_cons] at h
  rcases List.mem_cons.mp h with e | h
  ·rw [e,List.length_cons]; omega
  ·have:=QB h
   rw [List.length_cons]; omega
theorem NJ:∀ (R:List Row) (m:Nat),((Dw m R).filterMap (·.1)).Nodup
 | [],_=>List.nodup_nil
 | q :: R,m=>by
  unfold Dw
  rw [List.filterMap_cons]
  refine List.nodup_cons.mpr ⟨fun h=>?_,NJ R (m + 1)⟩
  have:=QB h
  omega
theorem Ii:∀ {R:List Row} {m i:Nat},i < R.length→((Dw m R).map CN)[i]? = some (.ad (m + i))
 | [],_,i,h=>absurd h (Nat.not_lt_zero i)
 | q :: R,m,0,h=>rfl
 | q :: R,m,i + 1,h=>by
  unfold Dw
  rw [List.map_cons,List.getElem?_cons_succ,Ii (by simpa using h),show m + 1 + i=m + (i + 1) by omega]
section
variable {x0 x1 x2 x3 x4 x5 x6 x7 x8 w:Option Lo}
theorem P4{ok:List Cell→Bool}(hok:∀ cs,ok cs=true):∀ (R:List Row) (C:List Cell),Ot 9 ok (Ak 5) (xP AD) (Dr 9 (Aa (Ab 5) Ah) [5]) [x0,x1,x2,x3,x4,x5,x6,x7,x8,w] (R.map rD) C=.ok ((Dw C.length R).map CN) (WR x0 x1 x2 x3 x4 x5 x6 x7 x8 (C ++ R.map rC))
 | [],C=>by
  rw [List.map_nil,List.map_nil,List.append_nil]
  rfl
 | r :: R,C=>by
  have ih:=P4 hok R (C ++ [rC r])
  rw [List.length_append,List.length_singleton,List.append_assoc] at ih
  have hf:Dr 9 (Aa (Ab 5) Ah) [5] (WR x0 x1 x2 x3 x4 (some (.sh (rD r))) x6 x7 x8 C)=.ok (.ad C.length) (WR x0 x1 x2 x3 x4 (some (.sh (rD r))) x6 x7 x8 (C ++ [rC r])):=rfl
  rw [List.map_cons]
  unfold Ot
  show ((RR (Dr 9 (Aa (Ab 5) Ah) [5] (WR x0 x1 x2 x3 x4 (some (.sh (rD r))) x6 x7 x8 C))).bind fun y ρ3=>YV 9 ok ρ3 fun cs'=>(Ot 9 ok (Ak 5) (xP AD) (Dr 9 (Aa (Ab 5) Ah) [5]) [x0,x1,x2,x3,x4,x5,x6,x7,x8,w] (R.map rD) cs').bind fun ys ρ=>.ok (y :: ys) ρ)=_
  rw [hf]
  show (if ok (C ++ [rC r])=true then ((Ot 9 ok (Ak 5) (xP AD) (Dr 9 (Aa (Ab 5) Ah) [5]) [x0,x1,x2,x3,x4,x5,x6,x7,x8,w] (R.map rD) (C ++ [rC r])).bind fun ys ρ=>XO.ok (Dt.ad C.length :: ys) ρ) else .bad)=_
  rw [if_pos (hok _),ih]
  rfl
theorem Nj:∀ (L:List (Option Nat × Row)) (C:List Cell),(∀ k r,(some k,r)∈L→C[k]? = some (rC r))→(L.filterMap (·.1)).Nodup→∃ C':List Cell,Ec 9 (L.map CN) (WR x0 x1 x2 x3 x4 x5 x6 x7 x8 C)=some ((L.map (·.2)).map rD,WR x0 x1 x2 x3 x4 x5 x6 x7 x8 C')∧∀ i,i∉L.filterMap (·.1)→C'[i]? = C[i]?
 | [],C,_,_=>⟨C,rfl,fun _ _=>rfl⟩
 | (none,r) :: L,C,h,n=>by
  rw [List.filterMap_cons] at n
  obtain ⟨C',e,h'⟩:=Nj L C (fun k q m=>h k q (List.mem_cons_of_mem _ m)) n
  refine ⟨C',?_,fun i hi=>h' i (by rw [List.filterMap_cons] at hi; exact hi)⟩
  show ((some (rD r,WR x0 x1 x2 x3 x4 x5 x6 x7 x8 C)).bind fun p=>(Ec 9 (L.map CN) p.2).bind fun q=>some (p.1 :: q.1,q.2))=_
  rw [Option.bind_some,e,Option.bind_some]
  rfl
 | (some k,r) :: L,C,h,n=>by
  rw [List.filterMap_cons] at n
  obtain ⟨n1,n2⟩:=List.nodup_cons.mp n
  have hk:=h k r List.mem_cons_self
  obtain ⟨C',e,h'⟩:=Nj L (C.set k .gone) (fun j q m=>by
   have:k≠j:=fun z=>n1 (List.mem_filterMap.mpr ⟨(some j,q),m,by rw [z]⟩)
   rw [List.getElem?_set_ne this]
   exact h j q (List.mem_cons_of_mem _ m)) n2
  refine ⟨C',?_,fun i hi=>?_⟩
  ·show ((((some C).bind fun cs=>(cs[k]?).bind fun c=>(Xu c).map fun e=>(e,WR x0 x1 x2 x3 x4 x5 x6 x7 x8 (cs.set k .gone))):Option (Dt × FD.Env)).bind fun p=>(Ec 9 (L.map CN) p.2).bind fun q=>some (p.1 :: q.1,q.2))=_
   rw [Option.bind_some,hk,Option.bind_some]
   show ((some (rD r,WR x0 x1 x2 x3 x4 x5 x6 x7 x8 (C.set k .gone))).bind fun p=>(Ec 9 (L.map CN) p.2).bind fun q=>some (p.1 :: q.1,q.2))=_
   rw [Option.bind_some,e,Option.bind_some]
   rfl
  ·rw [List.filterMap_cons] at hi
   have hi1:i≠k:=fun z=>hi (by rw [z]; exact List.mem_cons_self)
   rw [h' i fun z=>hi (List.mem_cons_of_mem _ z),List.getElem?_set_ne fun z=>hi1 z.symm]
end
theorem MW{n k:Nat}{fx fk:FD.Env→Out Dt}{f:FD.Env→XO Dt}{ρ ρ1:FD.Env}{C:List Cell}{r:Row}{z:Kn}{x:Int}(hf:f ρ=.ok (.int x) ρ1)(hx:fx ρ1=.ok (.ad k))(hm:BY n ρ1=some C)(hc:C[k]? = some (rC r))(hk:fk ρ1=.ok (.str (S z)))(hl:r.length < 16777216):
  Ho n fx fk f [] ρ=.ok .nx (ρ1.set n (some (.mh (C.set k (rC (Cq r z x)))))):=by
 have e:AI (.int x) [] ρ1=ρ1:=DN ..
 have hp:PM n (.ad k) (kN z) (.int x) ρ1=some (ρ1.set n (some (.mh (C.set k (rC (Cq r z x)))))):=by
  unfold PM
  simp only [hm,Option.bind_some,hc]
  show (if (By r).length < 16777216 then some (ρ1.set n (some (Lo.mh (C.set k (.dic (D7 (By r) (kN z)) (D6 (By r) (Cd r) (kN z) (.int x))))))) else none)=_
  rw [GZ,if_pos hl,Nl r z x,N4]
  rfl
 unfold Ho
 rw [hf,KN,e,hx,Df,hk,Df]
 show (match PM n (.ad k) (kN z) (.int x) ρ1 with
  | some ρ'=>SOut.ok .nx ρ'
  | none=>.bad)=_
 rw [hp]
theorem OP{i j:Nat}{f:FD.Env→XO (List Dt)}{lk:List Nat}{ρ ρ1:FD.Env}{d:Dt}{ds ds0:List Dt}(h0:ρ[i]? = some (some (.ol ds0)))(hf:f ρ=.ok [.int (j:Int),d] ρ1)(hz:AI d lk ρ1=ρ1)(h1:ρ1[i]? = some (some (.ol ds)))(hl:ds.length < 16777216)(hj:j≤16777216):
  CU i f lk ρ=.ok .nx (ρ1.set i (some (.ol (ds.take j ++ [d] ++ ds.drop j)))):=by
 unfold CU
 rw [h0]
 simp only
 rw [hf,KN]
 simp only
 rw [hz,h1]
 simp only
 rw [if_pos ⟨hl,by omega,by omega⟩,Int.toNat_natCast]
theorem Ti{n i:Nat}{ρ ρ':FD.Env}{ds es:List Dt}(h:ρ[i]? = some (some (.ol ds)))(hf:Ec n ds ρ=some (es,ρ')):JT n i ρ=.ok (.lst es) (ρ'.set i (some (.sh (.lst es)))):=by
 unfold JT
 rw [h]
 simp only
 rw [hf]
theorem Q4{ρ:FD.Env}{lk:List Nat}{d:Option Dt}{C:List Cell}(h:lk.all (EZ ρ)=true):A7 ρ lk d C=true:=by
 unfold A7
 rw [h]
 rfl
def MD(C:List Cell)(m:Nat)(R:List Row):Prop:=∀ i r,R[i]? = some r→C[m + i]? = some (rC r)
theorem Vv(R0:List Cell)(R:List Row):MD (R0 ++ R.map rC) R0.length R:=fun i r h=>by
 rw [List.getElem?_append_right (by omega),show R0.length + i - R0.length=i by omega,List.getElem?_map,h]
 rfl
theorem MD.at{C C':List Cell}{m j k:Nat}{b b':Bx}{R:List Row}(h:MD C m R)(a:At C C' j b b' k)(hj:j < m):MD C' m R:=fun i r hi=>by
 rw [a.ne (by omega)]
 exact h i r hi
theorem MD.set{C:List Cell}{m p:Nat}{R:List Row}(h:MD C m R)(hp:p < R.length)(r':Row):MD (C.set (m + p) (rC r')) m (R.set p r'):=fun i r hi=>by
 by_cases e:i=p
 ·subst e
  rw [List.getElem?_set_self hp] at hi
  cases hi
  have:=h i R[i] (List.getElem?_eq_getElem hp)
  exact List.getElem?_set_self (Iu this)
 ·rw [List.getElem?_set_ne fun z=>e z.symm] at hi
  rw [List.getElem?_set_ne (by omega)]
  exact h i r hi
theorem MD.Hw{C:List Cell}{m:Nat}{R:List Row}(h:MD C m R):∀ k r,(some k,r)∈Dw m R→C[k]? = some (rC r):=fun k r hm=>by
 obtain ⟨i,e,hi⟩:=Rx hm
 cases e
 exact h i r hi
theorem WA{R:List Row}{m p:Nat}(r':Row):(Dw m (R.set p r')).map CN=(Dw m R).map CN:=by
 refine List.ext_getElem? fun i=>?_
 by_cases h:i < R.length
 ·rw [Ii h,Ii (by rw [List.length_set]; exact h)]
 ·rw [List.getElem?_eq_none (by rw [List.length_map,Om,List.length_set]; omega),List.getElem?_eq_none (by rw [List.length_map,Om]; omega)]
abbrev bT(j:Nat)(R:List Row)(N:List Kn)(s:Int × Int)(x4 x5 x6 x7 x8:Option Lo)(C:List Cell):FD.Env:=
 [some (.sh (.ad j)),some (.sh (.lst (R.map rD))),some (.sh (.lst (N.map sD))),some (.sh (Cw s)),x4,x5,x6,x7,x8,some (.mh C)]
theorem bt_0{j:Nat}{R:List Row}{N:List Kn}{s:Int × Int}{R0:List Cell}(hl:R.length≤100):(Sl 9 (Ak 5) [5] (xP AD) (Dr 9 (Aa (Ab 5) Ah) [5]) (xP (AO (Ab 1))) [1]) (bT j R N s none none none none none R0)=.ok ((Dw R0.length R).map CN) (bT j R N s none none none none none (R0 ++ R.map rC)):=by
 have h1:=P4 (x0:=some (.sh (.ad j))) (x1:=some (.sh (.lst (R.map rD)))) (x2:=some (.sh (.lst (N.map sD)))) (x3:=some (.sh (Cw s))) (x4:=none) (x5:=none) (x6:=none) (x7:=none) (x8:=none) (w:=some (.mh R0)) (ok:=A7 (bT j R N s none none none none none R0) ([1] ++ [5]) none) (fun _=>Q4 rfl) R R0
 have k2:(R.map rD).length≤16777216∧A7 (bT j R N s none none none none none R0) ([1] ++ [5]) none R0=true:=⟨by rw [List.length_map]; omega,Q4 rfl⟩
 have hx:(xP (AO (Ab 1))) (bT j R N s none none none none none R0)=.ok (R.map rD) (bT j R N s none none none none none R0):=rfl
 unfold Sl
 rw [hx]
 show (if (R.map rD).length≤16777216∧A7 (bT j R N s none none none none none R0) ([1] ++ [5]) none R0=true then (Ot 9 (A7 (bT j R N s none none none none none R0) ([1] ++ [5]) none) (Ak 5) (xP AD) (Dr 9 (Aa (Ab 5) Ah) [5]) (bT j R N s none none none none none R0) (R.map rD) R0).bind fun ys ρ2=>(match BY 9 ρ2 with
  | some cs'=>XO.ok ys ((bT j R N s none none none none none R0).set 9 (some (.mh cs')))
  | none=>.bad) else .bad)=_
 rw [if_pos k2,h1]
 rfl
theorem Qp{j:Nat}{R:List Row}{N:List Kn}{s:Int × Int}{x5 x6 x7 x8:Option Lo}{C:List Cell}{Q:List (Option Nat × Row)}(h1:∀ k r,(some k,r)∈Q→C[k]? = some (rC r))(h2:(Q.filterMap (·.1)).Nodup):∃ C':List Cell,JT 9 4 (bT j R N s (some (.ol (Q.map CN))) x5 x6 x7 x8 C)=.ok (.lst ((Q.map (·.2)).map rD)) (bT j R N s (some (.sh (.lst ((Q.map (·.2)).map rD)))) x5 x6 x7 x8 C')∧∀ i,i∉Q.filterMap (·.1)→C'[i]? = C[i]?:=by
 obtain ⟨C',e,h⟩:=Nj (x0:=some (.sh (.ad j))) (x1:=some (.sh (.lst (R.map rD)))) (x2:=some (.sh (.lst (N.map sD)))) (x3:=some (.sh (Cw s))) (x4:=some (.ol (Q.map CN))) (x5:=x5) (x6:=x6) (x7:=x7) (x8:=x8) Q C h1 h2
 exact ⟨C',Ti rfl e,h⟩
theorem Xe{v:Int}(h0:0≤v)(h1:v < 2):gI Td (· * ·) (.int 2) (.int v)=some (.int (2 * v)):=by
 have e:Td 2 v=true:=by
  have:v=0∨v=1:=by omega
  rcases this with rfl | rfl <;> decide
 rw [E1,if_pos e]
theorem Gd.set{N:List Kn}{R:List Row}(h:Gd N R){p:Nat}{r:Row}(g:Gr N r)(n:r≠[]):Gd N (R.set p r):=⟨fun x hx=>(List.mem_or_eq_of_mem_set hx).elim (h.g x) fun e=>e ▸ g,fun x hx=>(List.mem_or_eq_of_mem_set hx).elim (h.n x) fun e=>e ▸ n⟩
theorem Jm{α β:Type}(f:α→β):∀ (l:List α) (i:Nat),(l.map f).eraseIdx i=(l.eraseIdx i).map f
 | [],i=>by cases i <;> rfl
 | a :: l,0=>rfl
 | a :: l,i + 1=>by
  rw [List.map_cons,List.eraseIdx_cons_succ,List.eraseIdx_cons_succ,List.map_cons,Jm f l i]
theorem X6{R0:List Cell}{j:Nat}{b:Bx}{N:List Kn}{s:Int × Int}{R:List Row}(hb:R0[j]? = some (F4 b))(hn:b.n≤700000000)(hs:Ki s)(hN:N.length≤12)(hN0:N≠[])(h:Gd N R)(hR:R≠[])(hl:R.length≤90):
  ∃ (Q:List Row) (R':List Cell) (b':Bx),EF K cs [.ad j,.lst (R.map rD),.lst (N.map sD),Cw s] R0=.ok (.lst (Q.map rD)) R'∧Gd N Q∧Q≠[]∧Q.length≤R.length + 1∧R'[j]? = some (F4 b')∧b'.n≤b.n + 100∧∀ i,i < R0.length→i≠j→R'[i]? = R0[i]?:=by
 have ed:EF K cs [.ad j,.lst (R.map rD),.lst (N.map sD),Cw s] R0=runM 9 (EE K cs) [.ad j,.lst (R.map rD),.lst (N.map sD),Cw s] R0:=D8 rfl
 rw [ed]
 unfold EE
 have hj:=Iu hb
 have rp:0 < R.length:=List.length_pos_iff.mpr hR
 have np:0 < N.length:=List.length_pos_iff.mpr hN0
 have glR:AN [.lst (R.map rD)]=some (.int (R.length:Nat)):=by rw [DT,List.length_map]
 have glN:AN [.lst (N.map sD)]=some (.int (N.length:Nat)):=by rw [DT,List.length_map]
 have h0:=bt_0 (j:=j) (R:=R) (N:=N) (s:=s) (R0:=R0) (by omega)
 have hb1:(R0 ++ R.map rC)[j]? = some (F4 b):=by rw [List.getElem?_append_left hj]; exact hb
 have H0:=Vv R0 R
 obtain ⟨v,C1,b1,t1,v0,v1,s1⟩:=Dv (K:=K) (cs:=cs) hb1 (by omega) (s:=(R.length:Nat)) (by omega) (by omega)
 have u1:=s1.up
 obtain ⟨w,C2,b2,t2,w0,w1,s2⟩:=Dv (K:=K) (cs:=cs) s1.E3 (by omega) (s:=4) (by decide) (by decide)
 have u2:=s2.up
 obtain ⟨y,C3,b3,t3,y0,y1,s3⟩:=Dv (K:=K) (cs:=cs) s2.E3 (by omega) (s:=(N.length:Nat)) (by omega) (by omega)
 have u3:=s3.up
 obtain ⟨z,hz,hix⟩:=QM (xs:=N) y0 y1
 have H3:=((H0.at s1 hj).at s2 hj).at s3 hj
 have S3:=(s1.trans s2).trans s3
 have k3:∀ i,i < R0.length→i≠j→C3[i]? = R0[i]?:=fun i hi hij=>by rw [S3.ne hij,List.getElem?_append_left hi]
 obtain ⟨p,rfl⟩:∃ p:Nat,v=(p:Int):=⟨v.toNat,by omega⟩
 have hp:p < R.length:=by omega
 have hat:atI ((Dw R0.length R).map CN) (p:Int)=some (.ad (R0.length + p)):=by rw [FD.atI_nat,Ii hp]
 have gR:=h.g R[p] (List.getElem_mem hp)
 have lR:=gR.len
 have nR:=h.n R[p] (List.getElem_mem hp)
 have hC:=H3 p R[p] (List.getElem?_eq_getElem hp)
 have low:∀ {L:List Row} {i:Nat},i < R0.length→i∉(Dw R0.length L).filterMap (·.1):=fun {L i} hi hm=>by have:=QB hm; omega
 have lenL:((Dw R0.length R).map CN).length=R.length:=by rw [List.length_map,Om]
 by_cases c1:w=1∧1 < R.length
 ·obtain ⟨rfl,c1⟩:=c1
  have sub:((Dw R0.length R).eraseIdx p).Sublist (Dw R0.length R):=List.eraseIdx_sublist _ _
  obtain ⟨C',hF,hk⟩:=Qp (j:=j) (R:=R) (N:=N) (s:=s) (x5:=some (.sh (.ad (R0.length + p)))) (x6:=some (.sh (.int (p:Int)))) (x7:=some (.sh (.int 1))) (x8:=some (.sh (.str (S z)))) (C:=C3) (Q:=(Dw R0.length R).eraseIdx p) (fun k r m=>H3.Hw k r (sub.mem m)) ((sub.filterMap _).nodup (NJ _ _))
  have e2:((Dw R0.length R).eraseIdx p).map (·.2)=R.eraseIdx p:=by rw [← Jm,Ig]
  have e3:((Dw R0.length R).eraseIdx p).map CN=((Dw R0.length R).map CN).eraseIdx p:=by rw [← Jm]
  rw [e2,e3] at hF
  have low':∀ {i:Nat},i < R0.length→i∉((Dw R0.length R).eraseIdx p).filterMap (·.1):=fun hi hm=>low hi ((sub.filterMap _).mem hm)
  refine ⟨R.eraseIdx p,C',b3,?_,⟨fun r hr=>h.g r (List.mem_of_mem_eraseIdx hr),fun r hr=>h.n r (List.mem_of_mem_eraseIdx hr)⟩,?_,?_,?_,by omega,fun i hi hij=>by rw [hk i (low' hi),k3 i hi hij]⟩
  ·have c1':(1:Int) < (R.length:Int):=by omega
   have ip:ixN ((Dw R0.length R).map CN).length (p:Int)=some p:=by
    unfold ixN
    rw [lenL,if_pos (by omega),if_pos (by omega)]
    rfl
   have ig:((Dw R0.length R).map CN)[p]? = some (.ad (R0.length + p)):=Ii hp
   have il:((Dw R0.length R).map CN).length≤16777216:=by rw [lenL]; omega
   simp! [h0,FD.CD,glR,t1,t2,hat,glN,t3,hix,beq_self_eq_true,c1',decide_true,ip,ig,il,hF]
  ·intro e
   have:=congrArg List.length e
   rw [List.length_eraseIdx_of_lt hp] at this
   simp only [List.length_nil] at this
   omega
  ·rw [List.length_eraseIdx_of_lt hp]; omega
  ·rw [hk j (low' hj)]; exact s3.E3
 by_cases c2:w=2
 ·subst c2
  obtain ⟨r,C4,b4,t4,g4,n4,s4⟩:=XR (K:=K) (cs:=cs) (N:=N) (s:=s) s3.E3 (by omega) hs hN hN0
  have u4:=s4.up
  have H4:=H3.at s4 hj
  have hsub:∀ x,x∈(Dw R0.length R).take p ++ (Dw R0.length R).drop p→x∈Dw R0.length R:=fun x hx=>by rw [List.take_append_drop] at hx; exact hx
  have hfm:((Dw R0.length R).take p ++ [((none,r):Option Nat × Row)] ++ (Dw R0.length R).drop p).filterMap (·.1)=(Dw R0.length R).filterMap (·.1):=by
   rw [List.filterMap_append,List.filterMap_append]
   show _ ++ [] ++ _=_
   rw [List.append_nil,← List.filterMap_append,List.take_append_drop]
  obtain ⟨C',hF,hk⟩:=Qp (j:=j) (R:=R) (N:=N) (s:=s) (x5:=some (.sh (.ad (R0.length + p)))) (x6:=some (.sh (.int (p:Int)))) (x7:=some (.sh (.int 2))) (x8:=some (.sh (.str (S z)))) (C:=C4) (Q:=(Dw R0.length R).take p ++ [((none,r):Option Nat × Row)] ++ (Dw R0.length R).drop p) (fun k q m=>H4.Hw k q (by
   rcases List.mem_append.mp m with m | m
   ·rcases List.mem_append.mp m with m | m
    ·exact List.mem_of_mem_take m
    ·cases List.mem_singleton.mp m
   ·exact List.mem_of_mem_drop m)) (by rw [hfm]; exact NJ _ _)
  have e2:((Dw R0.length R).take p ++ [((none,r):Option Nat × Row)] ++ (Dw R0.length R).drop p).map (·.2)=R.take p ++ [r] ++ R.drop p:=by
   rw [List.map_append,List.map_append,List.map_take,List.map_drop,Ig]
   rfl
  have e3:((Dw R0.length R).take p ++ [((none,r):Option Nat × Row)] ++ (Dw R0.length R).drop p).map CN=((Dw R0.length R).map CN).take p ++ [rD r] ++ ((Dw R0.length R).map CN).drop p:=by
   rw [List.map_append,List.map_append,List.map_take,List.map_drop]
   rfl
  rw [hfm] at hk
  rw [e2,e3] at hF
  refine ⟨R.take p ++ [r] ++ R.drop p,C',b4,?_,⟨fun x hx=>?_,fun x hx=>?_⟩,by simp,?_,?_,by omega,fun i hi hij=>by rw [hk i (low hi),s4.ne hij,k3 i hi hij]⟩
  ·have hi:(CU 4 (Cy (xP (Ab 6)) (Cy (Am 9 (Cj K cs) (xP (Aa (Ab 0) (Aa (Ab 2) (Aa (Ab 3) Ah)))) [0,2,3]) (xP Ah))) [6]) (bT j R N s (some (.ol ((Dw R0.length R).map CN))) (some (.sh (.ad (R0.length + p)))) (some (.sh (.int (p:Int)))) (some (.sh (.int 2))) (some (.sh (.str (S z)))) C3)=.ok .nx (bT j R N s (some (.ol (((Dw R0.length R).map CN).take p ++ [rD r] ++ ((Dw R0.length R).map CN).drop p))) (some (.sh (.ad (R0.length + p)))) (some (.sh (.int (p:Int)))) (some (.sh (.int 2))) (some (.sh (.str (S z)))) C4):=by
    refine OP (ρ1:=bT j R N s (some (.ol ((Dw R0.length R).map CN))) (some (.sh (.ad (R0.length + p)))) (some (.sh (.int (p:Int)))) (some (.sh (.int 2))) (some (.sh (.str (S z)))) C4) rfl ?_ (DG rfl) rfl (by rw [lenL]; omega) (by omega)
    simp! [t4]
   simp! [h0,FD.CD,glR,t1,t2,hat,glN,t3,hix,beq_self_eq_true,show ((2:Int) == 1)=false from rfl,hi,hF]
  ·rcases List.mem_append.mp hx with hx | hx
   ·rcases List.mem_append.mp hx with hx | hx
    ·exact h.g x (List.mem_of_mem_take hx)
    ·rw [List.mem_singleton.mp hx]; exact g4
   ·exact h.g x (List.mem_of_mem_drop hx)
  ·rcases List.mem_append.mp hx with hx | hx
   ·rcases List.mem_append.mp hx with hx | hx
    ·exact h.n x (List.mem_of_mem_take hx)
    ·rw [List.mem_singleton.mp hx]; exact n4
   ·exact h.n x (List.mem_of_mem_drop hx)
  ·simp only [List.length_append,List.length_take,List.length_drop,List.length_singleton]; omega
  ·rw [hk j (low hj)]; exact s4.E3
 have hc2:(w == (2:Int))=false:=beq_eq_false_iff_ne.mpr c2
 have lp:p < (R.set p R[p]).length:=by rw [List.length_set]; exact hp
 have fin:∀ (r':Row) (C5:List Cell) (b5:Bx) (x8:Option Lo),Gr N r'→r'≠[]→MD C5 R0.length R→C5[j]? = some (F4 b5)→b5.n≤b.n + 100→(∀ i,i < R0.length→i≠j→C5[i]? = R0[i]?) →
   ∃ C',JT 9 4 (bT j R N s (some (.ol ((Dw R0.length R).map CN))) (some (.sh (.ad (R0.length + p)))) (some (.sh (.int (p:Int)))) (some (.sh (.int w))) x8 (C5.set (R0.length + p) (rC r')))=.ok (.lst ((R.set p r').map rD)) (bT j R N s (some (.sh (.lst ((R.set p r').map rD)))) (some (.sh (.ad (R0.length + p)))) (some (.sh (.int (p:Int)))) (some (.sh (.int w))) x8 C')∧C'[j]? = some (F4 b5)∧∀ i,i < R0.length→i≠j→C'[i]? = R0[i]?:=fun r' C5 b5 x8 g n H a hb5 k5=>by
  obtain ⟨C',hF,hk⟩:=Qp (j:=j) (R:=R) (N:=N) (s:=s) (x5:=some (.sh (.ad (R0.length + p)))) (x6:=some (.sh (.int (p:Int)))) (x7:=some (.sh (.int w))) (x8:=x8) (C:=C5.set (R0.length + p) (rC r')) (Q:=Dw R0.length (R.set p r')) (H.set hp r').Hw (NJ _ _)
  rw [Ig,WA] at hF
  refine ⟨C',hF,?_,fun i hi hij=>?_⟩
  ·rw [hk j (low hj),List.getElem?_set_ne (by omega)]; exact a
  ·rw [hk i (low hi),List.getElem?_set_ne (by omega)]; exact k5 i hi hij
 by_cases c3:w=3
 ·subst c3
  obtain ⟨u,C4,b4,t4,q0,q1,s4⟩:=Dv (K:=K) (cs:=cs) s3.E3 (by omega) (s:=s.1) hs.1 (by have:=hs.2; omega)
  have u4:=s4.up
  have H4:=H3.at s4 hj
  obtain ⟨C',hF,ha,hk⟩:=fin (Cq R[p] z (u + s.2)) C4 b4 (some (.sh (.str (S z)))) (gR.put hz _) (Js _ _ _) H4 s4.E3 (by omega) fun i hi hij=>by rw [s4.ne hij,k3 i hi hij]
  refine ⟨R.set p (Cq R[p] z (u + s.2)),C',b4,?_,h.set (gR.put hz _) (Js _ _ _),fun e=>hR (List.eq_nil_of_length_eq_zero (by rw [← List.length_set,e]; rfl)),by rw [List.length_set]; omega,ha,by omega,hk⟩
  have hi:=MW (n:=9) (k:=R0.length + p) (fx:=Ab 5) (fk:=Ab 8) (f:=(FD.x2 (Am 9 (Ai K cs) (xP (Aa (Ab 0) (Aa (FD.e2 (Ab 3) (eC (.int 0)) A4) Ah))) [0]) (xP (FD.e2 (Ab 3) (eC (.int 1)) A4)) AJ)) (ρ:=bT j R N s (some (.ol ((Dw R0.length R).map CN))) (some (.sh (.ad (R0.length + p)))) (some (.sh (.int (p:Int)))) (some (.sh (.int 3))) (some (.sh (.str (S z)))) C3) (ρ1:=bT j R N s (some (.ol ((Dw R0.length R).map CN))) (some (.sh (.ad (R0.length + p)))) (some (.sh (.int (p:Int)))) (some (.sh (.int 3))) (some (.sh (.str (S z)))) C4) (C:=C4) (r:=R[p]) (z:=z) (x:=u + s.2) (by
    simp! [t4,show A4 (Cw s) (.int 0)=some (.int s.1) from rfl,show A4 (Cw s) (.int 1)=some (.int s.2) from rfl]) rfl rfl (H4 p R[p] (List.getElem?_eq_getElem hp)) rfl (by omega)
  simp! [h0,FD.CD,glR,t1,t2,hat,glN,t3,hix,beq_self_eq_true,show ((3:Int) == 1)=false from rfl,show ((3:Int) == 2)=false from rfl,hi,hF]
 have hc3:(w == (3:Int))=false:=beq_eq_false_iff_ne.mpr c3
 obtain ⟨q,tl,hq⟩:∃ q tl,R[p]=q :: tl:=by
  cases e:R[p] with
  | nil=>exact absurd e nR
  | cons q tl=>exact ⟨q,tl,rfl⟩
 obtain ⟨u,C4,b4,t4,q0,q1,s4⟩:=Dv (K:=K) (cs:=cs) s3.E3 (by omega) (s:=2) (by decide) (by decide)
 have u4:=s4.up
 have H4:=H3.at s4 hj
 have hqN:q.1∈N:=gR.sub q.1 (by rw [hq]; exact List.mem_cons_self)
 obtain ⟨C',hF,ha,hk⟩:=fin (Cq R[p] q.1 (q.2 + 1 - 2 * u)) C4 b4 (some (.sh (sD q.1))) (gR.put hqN _) (Js _ _ _) H4 s4.E3 (by omega) fun i hi hij=>by rw [s4.ne hij,k3 i hi hij]
 refine ⟨R.set p (Cq R[p] q.1 (q.2 + 1 - 2 * u)),C',b4,?_,h.set (gR.put hqN _) (Js _ _ _),fun e=>hR (List.eq_nil_of_length_eq_zero (by rw [← List.length_set,e]; rfl)),by rw [List.length_set]; omega,ha,by omega,hk⟩
 have hK:KP 9 5 (bT j R N s (some (.ol ((Dw R0.length R).map CN))) (some (.sh (.ad (R0.length + p)))) (some (.sh (.int (p:Int)))) (some (.sh (.int w))) (some (.sh (.str (S z)))) C3)=.ok (sD q.1 :: (ks tl).map sD):=by
  show DY ((some C3).bind fun cs=>(cs[R0.length + p]?).bind cellK)=_
  rw [Option.bind_some,hC,Option.bind_some]
  show Out.ok ((By R[p]).map Iq)=_
  rw [Iz,hq]
  rfl
 have g1:Cc (.dic (By R[p]) (Cd R[p])) (sD q.1)=some (.int q.2):=by
  have:=VA R[p] q.1
  rw [JZ gR.nd (show (q.1,q.2)∈R[p] by rw [hq]; exact List.mem_cons_self)] at this
  exact this
 have hA:MU 9 5 (Ab 8) (bT j R N s (some (.ol ((Dw R0.length R).map CN))) (some (.sh (.ad (R0.length + p)))) (some (.sh (.int (p:Int)))) (some (.sh (.int w))) (some (.sh (sD q.1))) C3)=.ok (.int q.2):=by
  show (Out.ok (sD q.1)).bind (fun b=>DY ((some C3).bind fun cs=>(cs[R0.length + p]?).bind (cellAt b)))=_
  rw [Out.AB,Option.bind_some,hC,Option.bind_some]
  show DY (Cc (.dic (By R[p]) (Cd R[p])) (sD q.1))=_
  rw [g1]
  rfl
 have hi:=MW (n:=9) (k:=R0.length + p) (fx:=Ab 5) (fk:=Ab 8) (f:=(FD.x2 (xP (FD.e2 (MU 9 5 (Ab 8)) (eC (.int 1)) AJ)) (FD.x2 (xP (eC (.int 2))) (Am 9 (Ai K cs) (xP (Aa (Ab 0) (Aa (eC (.int 2)) Ah))) [0]) (gI Td (· * ·))) (Je (· - ·)))) (ρ:=bT j R N s (some (.ol ((Dw R0.length R).map CN))) (some (.sh (.ad (R0.length + p)))) (some (.sh (.int (p:Int)))) (some (.sh (.int w))) (some (.sh (sD q.1))) C3) (ρ1:=bT j R N s (some (.ol ((Dw R0.length R).map CN))) (some (.sh (.ad (R0.length + p)))) (some (.sh (.int (p:Int)))) (some (.sh (.int w))) (some (.sh (sD q.1))) C4) (C:=C4) (r:=R[p]) (z:=q.1) (x:=q.2 + 1 - 2 * u) (by
   simp! [hA,t4,Xe q0 q1]) rfl rfl (H4 p R[p] (List.getElem?_eq_getElem hp)) rfl (by omega)
 by_cases hw:w=1
 ·subst hw
  have z1:¬ (1:Int) < (R.length:Int):=fun z1=>c1 ⟨rfl,by omega⟩
  simp! [h0,FD.CD,glR,t1,t2,hat,glN,t3,hix,beq_self_eq_true,z1,decide_false,hc2,hc3,hK,hi,hF]
 ·have hw':(w == (1:Int))=false:=beq_eq_false_iff_ne.mpr hw
  simp! [h0,FD.CD,glR,t1,t2,hat,glN,t3,hix,hw',hc2,hc3,hK,hi,hF]
theorem XB{N:List Kn}{R:List Row}(h:Gd N R)(hR:R≠[])(hl:R.length≤100)(hN:N.length≤12)(hn:∀ k∈N,Nm k):Lr R:=
 ⟨hR,hl,fun r hr=>(h.g r hr).nd,h.n,fun r hr p hp=>hn p.1 ((h.g r hr).sub p.1 (GI (x:=p.2) hp)),fun r hr=>by have:=(h.g r hr).len; omega⟩
abbrev Nk(R:List Row)(N:List Kn)(j:Nat)(s:Int × Int)(x4 x5 x6 x7 x8 x9 x10 x11:Option Lo)(C:List Cell):FD.Env:=
 [some (.sh (.lst (R.map rD))),some (.sh (.lst (N.map sD))),some (.sh (.ad j)),some (.sh (Cw s)),x4,x5,x6,x7,x8,x9,x10,x11,some (.mh C)]
theorem RN{R:List Row}{N:List Kn}{j:Nat}{s:Int × Int}{x4 x5 x6 x7 x10 x11:Option Lo}:∀ (L:List Kn) (P:Row) (x9:Option Lo) (C:List Cell) (b:Bx),C[j]? = some (F4 b)→b.n + L.length≤900000000→P.length + L.length≤1000 →
  ∃ (P':Row) (x9':Option Lo) (C':List Cell) (b':Bx),At C C' j b b' L.length∧(∀ k,(k∈L∨k∈ks P)→k∈ks P') ∧
  BK (Ak 9) (B9 8 (Ab 9) (FD.x2 (Am 12 (Ai K cs) (xP (Aa (Ab 2) (Aa (eC (.int 41)) Ah))) [2]) (xP (eC (.int 20))) (Je (· - ·))) []) (L.map sD) (Nk R N j s x4 x5 x6 x7 (some (.od (By P) (Cd P))) x9 x10 x11 C)=.ok .nx (Nk R N j s x4 x5 x6 x7 (some (.od (By P') (Cd P'))) x9' x10 x11 C')
 | [],P,x9,C,b,hb,_,_=>⟨P,x9,C,b,At.refl hb,(fun k h=>h.elim (fun z=>nomatch z) id),rfl⟩
 | k :: L,P,x9,C,b,hb,hn,hl=>by
  simp only [List.length_cons] at hn hl
  obtain ⟨v,C1,b1,t1,v0,v1,s1⟩:=Dv (K:=K) (cs:=cs) hb (by omega) (s:=41) (by decide) (by decide)
  have u1:=s1.up
  have lp:=NN P k (v - 20)
  obtain ⟨P',x9',C',b',s2,h,e⟩:=RN (R:=R) (N:=N) (s:=s) (x4:=x4) (x5:=x5) (x6:=x6) (x7:=x7) (x10:=x10) (x11:=x11) L (Cq P k (v - 20)) (some (.sh (sD k))) C1 b1 s1.E3 (by omega) (by omega)
  refine ⟨P',x9',C',b',(s1.trans s2).mono (by rw [List.length_cons]; omega),fun i hi=>h i ?_,?_⟩
  ·by_cases e:i∈L
   ·exact .inl e
   ·refine .inr (YT ?_)
    rcases hi with hi | hi
    ·rcases List.mem_cons.mp hi with z | z
     ·exact .inr z
     ·exact absurd z e
    ·exact .inl hi
  ·have hp:=X8 (i:=8) (fk:=Ab 9) (f:=(FD.x2 (Am 12 (Ai K cs) (xP (Aa (Ab 2) (Aa (eC (.int 41)) Ah))) [2]) (xP (eC (.int 20))) (Je (· - ·)))) (lk:=[]) (ρ:=Nk R N j s x4 x5 x6 x7 (some (.od (By P) (Cd P))) (some (.sh (sD k))) x10 x11 C) (ρ1:=Nk R N j s x4 x5 x6 x7 (some (.od (By P) (Cd P))) (some (.sh (sD k))) x10 x11 C1) (r:=P) (k:=k) (x:=v - 20) (by simp! [t1]) rfl rfl (by omega)
   rw [List.map_cons,Dx (ρ1:=Nk R N j s x4 x5 x6 x7 (some (.od (By P) (Cd P))) (some (.sh (sD k))) x10 x11 C) rfl,hp]
   exact e
theorem RC{R:List Row}{N:List Kn}{j:Nat}{s:Int × Int}(hR:Lr R)(hN:N.length≤12)(sub:∀ r∈R,∀ k∈ks r,k∈N){x4 x5 x7 x8 x9 x10 x11:Option Lo}{C:List Cell}{b:Bx}(hb:C[j]? = some (F4 b))(hn:b.n≤800000000):
  ∃ (x8' x9':Option Lo) (C':List Cell) (b':Bx),At C C' j b b' 12 ∧
  (An (EI 8)
  (An (Bj (Ak 9) (AO (Ab 1)) [1]
  (B9 8 (Ab 9) (FD.x2 (Am 12 (Ai K cs) (xP (Aa (Ab 2) (Aa (eC (.int 41)) Ah))) [2]) (xP (eC (.int 20))) (Je (· - ·))) []))
  (BV (FD.t2 (Ao (Au K cs) (Aa (Ab 6) (Aa (Ab 8) Ah))) (Ao (Au K cs) (Aa (Ab 0) (Aa (Ab 8) Ah))) Jr) (Ax (eC (.bl false)) []) Ar))) (Nk R N j s x4 x5 (some (.sh (.lst ((nf R).map rD)))) x7 x8 x9 x10 x11 C)=.ok .nx (Nk R N j s x4 x5 (some (.sh (.lst ((nf R).map rD)))) x7 x8' x9' x10 x11 C'):=by
 obtain ⟨P,y9,C',b',s1,h,e⟩:=RN (K:=K) (cs:=cs) (R:=R) (N:=N) (s:=s) (x4:=x4) (x5:=x5) (x6:=some (.sh (.lst ((nf R).map rD)))) (x7:=x7) (x10:=x10) (x11:=x11) N [] x9 C b hb (by omega) (by simp only [List.length_nil]; omega)
 refine ⟨some (.od (By P) (Cd P)),y9,C',b',s1.mono hN,?_⟩
 have hf:Bj (Ak 9) (AO (Ab 1)) [1] (B9 8 (Ab 9) (FD.x2 (Am 12 (Ai K cs) (xP (Aa (Ab 2) (Aa (eC (.int 41)) Ah))) [2]) (xP (eC (.int 20))) (Je (· - ·))) []) (Nk R N j s x4 x5 (some (.sh (.lst ((nf R).map rD)))) x7 (some (.od [] [])) x9 x10 x11 C)=.ok .nx (Nk R N j s x4 x5 (some (.sh (.lst ((nf R).map rD)))) x7 (some (.od (By P) (Cd P))) y9 x10 x11 C'):=e
 obtain ⟨a1,a2,a3,a4⟩:=Ep hR.nd
 obtain ⟨hL,hF⟩:=hR.nf
 have hP:∀ r∈R,∀ k∈ks r,gt P k=some ((gt P k).getD 0):=fun r hr k hk=>by
  have:=h k (.inl (sub r hr k hk))
  cases e:gt P k with
  | none=>exact absurd this (Fy.mp e)
  | some x=>rfl
 have hP':∀ l∈nf R,∀ k∈ks l,gt P k=some ((gt P k).getD 0):=fun l hl k hk=>by
  obtain ⟨r,hr,rfl⟩:=a2 l hl
  exact hP r hr k ((N6 (Cp r)).mem_iff.mp hk)
 have t1:=Ko (K:=K) (cs:=cs) (P:=P) (f:=fun k=>(gt P k).getD 0) hL hP'
 have t2:=Ko (K:=K) (cs:=cs) (P:=P) (f:=fun k=>(gt P k).getD 0) hR hP
 have ev:vl (nf R) (fun k=>(gt P k).getD 0)=vl R (fun k=>(gt P k).getD 0):=Vi hL.ne hR.ne hL.nn hR.nn a3 a4
 rw [ev] at t1
 have hd:(Dt.dic (By P) (Cd P))=rD P:=rfl
 simp! [hf,hd,t1,t2,beq_self_eq_true]
theorem SY{R:List Row}(h:Lr R){r0:Row}(h0:r0∈R)(hl:R.length≤90):Lr (R.reverse.map List.reverse ++ [r0])∧nf (R.reverse.map List.reverse ++ [r0])=nf R:=by
 have mem:∀ x∈R.reverse.map List.reverse ++ [r0],∃ r∈R,r.Perm x:=fun x hx=>by
  rcases List.mem_append.mp hx with hx | hx
  ·obtain ⟨r,hr,rfl⟩:=List.mem_map.mp hx
   exact ⟨r,List.mem_reverse.mp hr,(List.reverse_perm r).symm⟩
  ·rw [List.mem_singleton.mp hx]
   exact ⟨r0,h0,List.Perm.refl _⟩
 have hL:Lr (R.reverse.map List.reverse ++ [r0]):=by
  refine ⟨by simp,by rw [List.length_append,List.length_map,List.length_reverse,List.length_singleton]; omega,fun x hx=>?_,fun x hx=>?_,fun x hx=>?_,fun x hx=>?_⟩
  ·obtain ⟨r,hr,p⟩:=mem x hx
   exact (N6 p).nodup_iff.mp (h.nd r hr)
  ·obtain ⟨r,hr,p⟩:=mem x hx
   intro e
   rw [e] at p
   exact h.nn r hr p.eq_nil
  ·obtain ⟨r,hr,p⟩:=mem x hx
   exact fun q hq=>h.nm r hr q (p.mem_iff.mpr hq)
  ·obtain ⟨r,hr,p⟩:=mem x hx
   rw [← p.length_eq]
   exact h.r r hr
 refine ⟨hL,Vk h.nd hL.nd mem fun r hr=>⟨r.reverse,List.mem_append_left _ (List.mem_map.mpr ⟨r,List.mem_reverse.mpr hr,rfl⟩),List.reverse_perm r⟩⟩
theorem YE{C:List Cell}{j:Nat}{b:Bx}{N:List Kn}{s:Int × Int}{R:List Row}(hb:C[j]? = some (F4 b))(hn:b.n≤600000000)(hs:Ki s)(hN:N.length≤12)(hN0:N≠[])(hnm:∀ k∈N,Nm k)(h:Gd N R)(hR0:R≠[])(hl:R.length≤40):
  ∃ (C':List Cell) (b':Bx),DV K cs [.lst (R.map rD),.lst (N.map sD),.ad j,Cw s] C=.ok (.bl true) C'∧C'[j]? = some (F4 b')∧b'.n≤b.n + 200:=by
 have ed:DV K cs [.lst (R.map rD),.lst (N.map sD),.ad j,Cw s] C=runM 12 (ET K cs) [.lst (R.map rD),.lst (N.map sD),.ad j,Cw s] C:=D8 rfl
 rw [ed]
 unfold ET
 have hR:=XB h hR0 (by omega) hN hnm
 have sub:∀ r∈R,∀ k∈ks r,k∈N:=fun r hr=>(h.g r hr).sub
 obtain ⟨hL,hF⟩:=hR.nf
 have rp:0 < R.length:=List.length_pos_iff.mpr hR0
 have t1:=Nn (K:=K) (cs:=cs) hR
 have hz:∀ Q:List Row,∀ lk ρ,AI (.tup (Q.map fD)) lk ρ=ρ:=fun Q lk ρ=>Na (M7 _)
 -- turned
 have c2:∀ C:List Cell,EG (Ak 5) [5] AD (Ao (CS K cs) (Aa (Ab 5) Ah)) (AO (eL (Qn (Ab 0)))) [0] (Nk R N j s (some (.sh (.tup ((nf R).map fD)))) none none none none none none none C)=.ok ((R.reverse.map List.reverse).map rD):=fun C=>by
  have src:AO (eL (Qn (Ab 0))) (Nk R N j s (some (.sh (.tup ((nf R).map fD)))) none none none none none none none C)=.ok (R.reverse.map rD):=by
   rw [List.map_reverse]
   rfl
  rw [List.map_map]
  refine Cg (e:=rD) src (by rw [List.length_reverse]; omega) fun r hr=>⟨Nk R N j s (some (.sh (.tup ((nf R).map fD)))) (some (.sh (rD r))) none none none none none none C,rfl,?_⟩
  have t:=Vn (K:=K) (cs:=cs) (hR.nd r (List.mem_reverse.mp hr)) (hR.r r (List.mem_reverse.mp hr))
  simp! [t]
  rfl
 obtain ⟨hT,eT⟩:=SY hR (List.getElem_mem rp) (by omega)
 have ix0:atI (R.map rD) 0=some (rD R[0]):=Pm rp
 have gd0:B4 [rD R[0]]=some (rD R[0]):=rfl
 have ga:AJ (.lst ((R.reverse.map List.reverse).map rD)) (.lst [rD R[0]])=some (.lst ((R.reverse.map List.reverse ++ [R[0]]).map rD)):=by
  rw [IC,if_pos (by rw [List.length_map,List.length_map,List.length_reverse,List.length_singleton]; omega),List.map_append]
  rfl
 have t2:=Nn (K:=K) (cs:=cs) hT
 rw [eT] at t2
 have q0:=Ua (Pd hL.nm hL.nm)
 rw [decide_eq_true rfl] at q0
 have t3:=UU (K:=K) (cs:=cs) hF hL.ne (by have:=hL.l; omega)
 have t4:=Nn (K:=K) (cs:=cs) hL
 rw [Zo hR.nd] at t4
 obtain ⟨y8,y9,C1,b1,s1,e1⟩:=RC (K:=K) (cs:=cs) (s:=s) hR hN sub (x4:=some (.sh (.tup ((nf R).map fD)))) (x5:=none) (x7:=some (.sh (.int 0))) (x8:=none) (x9:=none) (x10:=none) (x11:=none) hb (by omega)
 have u1:=s1.up
 obtain ⟨w8,w9,C2,b2,s2,e2⟩:=RC (K:=K) (cs:=cs) (s:=s) hR hN sub (x4:=some (.sh (.tup ((nf R).map fD)))) (x5:=none) (x7:=some (.sh (.int 1))) (x8:=y8) (x9:=y9) (x10:=none) (x11:=none) s1.E3 (by omega)
 have u2:=s2.up
 have hf:Bj (Ak 7) (BP (Aa (eC (.int 2)) Ah)) [] (An (EI 8)
  (An (Bj (Ak 9) (AO (Ab 1)) [1]
  (B9 8 (Ab 9) (FD.x2 (Am 12 (Ai K cs) (xP (Aa (Ab 2) (Aa (eC (.int 41)) Ah))) [2]) (xP (eC (.int 20))) (Je (· - ·))) []))
  (BV (FD.t2 (Ao (Au K cs) (Aa (Ab 6) (Aa (Ab 8) Ah))) (Ao (Au K cs) (Aa (Ab 0) (Aa (Ab 8) Ah))) Jr) (Ax (eC (.bl false)) []) Ar))) (Nk R N j s (some (.sh (.tup ((nf R).map fD)))) none (some (.sh (.lst ((nf R).map rD)))) none none none none none C)=.ok .nx (Nk R N j s (some (.sh (.tup ((nf R).map fD)))) none (some (.sh (.lst ((nf R).map rD)))) (some (.sh (.int 1))) w8 w9 none none C2):=by
  have er:BP (Aa (eC (.int 2)) Ah) (Nk R N j s (some (.sh (.tup ((nf R).map fD)))) none (some (.sh (.lst ((nf R).map rD)))) none none none none none C)=.ok [.int 0,.int 1]:=rfl
  rw [CV,er,Df]
  show BK (Ak 7) (An (EI 8)
  (An (Bj (Ak 9) (AO (Ab 1)) [1]
  (B9 8 (Ab 9) (FD.x2 (Am 12 (Ai K cs) (xP (Aa (Ab 2) (Aa (eC (.int 41)) Ah))) [2]) (xP (eC (.int 20))) (Je (· - ·))) []))
  (BV (FD.t2 (Ao (Au K cs) (Aa (Ab 6) (Aa (Ab 8) Ah))) (Ao (Au K cs) (Aa (Ab 0) (Aa (Ab 8) Ah))) Jr) (Ax (eC (.bl false)) []) Ar))) [.int 0,.int 1] (Nk R N j s (some (.sh (.tup ((nf R).map fD)))) none (some (.sh (.lst ((nf R).map rD)))) none none none none none C)=_
  rw [Dx (ρ1:=Nk R N j s (some (.sh (.tup ((nf R).map fD)))) none (some (.sh (.lst ((nf R).map rD)))) (some (.sh (.int 0))) none none none none C) rfl,e1]
  show BK (Ak 7) (An (EI 8)
  (An (Bj (Ak 9) (AO (Ab 1)) [1]
  (B9 8 (Ab 9) (FD.x2 (Am 12 (Ai K cs) (xP (Aa (Ab 2) (Aa (eC (.int 41)) Ah))) [2]) (xP (eC (.int 20))) (Je (· - ·))) []))
  (BV (FD.t2 (Ao (Au K cs) (Aa (Ab 6) (Aa (Ab 8) Ah))) (Ao (Au K cs) (Aa (Ab 0) (Aa (Ab 8) Ah))) Jr) (Ax (eC (.bl false)) []) Ar))) [.int 1] (Nk R N j s (some (.sh (.tup ((nf R).map fD)))) none (some (.sh (.lst ((nf R).map rD)))) (some (.sh (.int 0))) y8 y9 none none C1)=_
  rw [Dx (ρ1:=Nk R N j s (some (.sh (.tup ((nf R).map fD)))) none (some (.sh (.lst ((nf R).map rD)))) (some (.sh (.int 1))) y8 y9 none none C1) rfl,e2]
  rfl
 obtain ⟨Q,C3,b3,t5,hQ,hQ0,lQ,a3,n3,_⟩:=X6 (K:=K) (cs:=cs) s2.E3 (by omega) hs hN hN0 h hR0 (by omega)
 have hQr:=XB hQ hQ0 (by omega) hN hnm
 have t6:=Nn (K:=K) (cs:=cs) hQr
 have t7:=W7 (K:=K) (cs:=cs) hR hQr (N:=N) (by omega) (by rw [List.length_append]; omega) fun r hr k hk=>(List.mem_append.mp hr).elim (fun z=>sub r z k hk) fun z=>(hQ.g r z).sub k hk
 have q1:=Pd (A:=nf Q) (B:=nf R) hQr.nf.1.nm hL.nm
 have fin:(decide (nf Q=nf R) == decide (nf R=nf Q))=true:=by
  rw [show decide (nf Q=nf R)=decide (nf R=nf Q) from decide_eq_decide.mpr eq_comm]
  exact beq_self_eq_true _
 refine ⟨C3,b3,?_,a3,by omega⟩
 have c2':=c2 C
 simp! [t1,hz,c2',ix0,gd0,ga,t2,q0,t3,t4,hf,FD.GA,t5,t6,t7,q1,fin]
end Lk13
namespace Lk13
open PySem L2 FD SX TL Nf
variable {P:Program} {w:World} {K:PySem.W.Frag} {mg:Str→Option Value} {base:Heap} {cs:Cs}
theorem VQ{Ds:List Addr}{c:Value}{i:Nat}{g:FD.Env→SOut}{h:Addr→Option Addr→Addr→FD.Env→SOut}{ρ ρ1:FD.Env}{x:Exn}{r:SOut}(hg:g ρ=.exc x ρ1)(hm:PySem.W.exmOne K (.ref x.cls) c=some true)(hD:x.cls∈Ds)
  (hh:∀ a d,unset i (h a d x.cls (ρ1.set i (some (.sh (P8 x a d)))))=r):FU K Ds c i g h ρ=r:=by
 rw [QV,hg]
 simp only
 rw [if_pos hm,if_pos hD]
 exact Se hh
theorem JK(T:Tx P w K mg base cs){R:List Row}(hs:Sz R)(hm:∀ r∈R,TC r)(h:R=[]∨∃ r∈R,r=[]):AL K cs [.lst (R.map rD)]=.ok (.bl true):=by
 have ed:AL K cs [.lst (R.map rD)]=AR 5 (Dh K cs) [.lst (R.map rD)]:=A6 rfl
 rw [ed]
 unfold Dh
 have t:=(RO (K:=K) (cs:=cs) hs).2 h
 have hit:∀ ρ:FD.Env,∀ r:Row,Ab 2 ρ=.ok (rD r)→eL (Cu (Ab 2)) ρ=.ok (GW r):=fun ρ r h=>by
  simp! [Jn,h,items]
  rfl
 have c1:EG (Ak 2) [2] AD (eL (Cu (Ab 2))) (AO (Ab 0)) [0] [some (.sh (.lst (R.map rD))),none,none,none,none]=.ok (R.map GW):=
  Cg (e:=rD) rfl (by have:=hs.l; omega) fun r hr=>⟨[some (.sh (.lst (R.map rD))),none,some (.sh (rD r)),none,none],rfl,hit _ r rfl⟩
 have s0:(EN 1 (EG (Ak 2) [2] AD (eL (Cu (Ab 2))) (AO (Ab 0)) [0]) [0,2,2]) [some (.sh (.lst (R.map rD))),none,none,none,none]=.ok .nx [some (.sh (.lst (R.map rD))),some (.ol (R.map GW)),none,none,none]:=by
  simp! [c1,FD.CD]
 have hg:(Lu (Ao (BS K cs) (Aa (Ab 0) Ah))) [some (.sh (.lst (R.map rD))),some (.ol (R.map GW)),none,none,none]=.exc (TB cs) [some (.sh (.lst (R.map rD))),some (.ol (R.map GW)),none,none,none]:=by
  simp! [t]
 have s1:(FU K cs.all (.ref cs.c_EmptyForm) 3 (Lu (Ao (BS K cs) (Aa (Ab 0) Ah)))
  (fun a d C=>(An (B2 4 (FQ (eB (DB K C a d) (Aa (Ab 3) (Aa (eC (.cls cs.c_Refused)) Ah))) (FQ (eB (DB K C a d) (Aa (Ab 3) (Aa (eC (.cls cs.c_HouseError)) Ah))) (eB (DB K C a d) (Aa (Ab 3) (Aa (eC (.ty "ValueError")) Ah))))) [])
  (An (B2 4 (FQ (Ab 4) (FQ (Oi (eB (DB K C a d) (Aa (Ab 3) (Aa (eC (.cls cs.c_Unfit)) Ah)))) (FQ (Oi (eB (DB K C a d) (Aa (Ab 3) (Aa (eC (.cls cs.c_NoAnswer)) Ah)))) (Oi (eB (DB K C a d) (Aa (Ab 3) (Aa (eC (.cls cs.c_NoName)) Ah))))))) [])
  (Ax (FQ (Ab 4) (eT (FD.t2 (eL (EG (Ak 2) [2] AD (eL (Cu (Ab 2))) (oLst (Ab 0)) [0])) (Ab 1) Fb))) []))))) [some (.sh (.lst (R.map rD))),some (.ol (R.map GW)),none,none,none]=.ok (.rt (.bl true)) [some (.sh (.lst (R.map rD))),some (.ol (R.map GW)),none,none,some (.sh (.bl true))]:=by
  refine VQ hg T.x_EmptyForm_EmptyForm (by simp [Cs.all]) fun a d=>?_
  have z1:DB K cs.c_EmptyForm a d [P8 (TB cs) a d,.cls cs.c_Refused]=some (.bl true):=GK T.i_EmptyForm_Refused
  have z2:DB K cs.c_EmptyForm a d [P8 (TB cs) a d,.cls cs.c_HouseError]=some (.bl true):=GK T.i_EmptyForm_HouseError
  have z3:DB K cs.c_EmptyForm a d [P8 (TB cs) a d,.ty "ValueError"]=some (.bl true):=Xh T.i_EmptyForm_ValueError
  have z4:DB K cs.c_EmptyForm a d [P8 (TB cs) a d,.cls cs.c_Unfit]=some (.bl false):=GK T.i_EmptyForm_Unfit
  have z5:DB K cs.c_EmptyForm a d [P8 (TB cs) a d,.cls cs.c_NoAnswer]=some (.bl false):=GK T.i_EmptyForm_NoAnswer
  have z6:DB K cs.c_EmptyForm a d [P8 (TB cs) a d,.cls cs.c_NoName]=some (.bl false):=GK T.i_EmptyForm_NoName
  have c2:EG (Ak 2) [2] AD (eL (Cu (Ab 2))) (oLst (Ab 0)) [0] [some (.sh (.lst (R.map rD))),some (.ol (R.map GW)),none,some (.sh (P8 (TB cs) a d)),some (.sh (.bl true))]=.ok (R.map GW):=
   Cg (e:=rD) rfl (by have:=hs.l; omega) fun r hr=>⟨[some (.sh (.lst (R.map rD))),some (.ol (R.map GW)),some (.sh (rD r)),some (.sh (P8 (TB cs) a d)),some (.sh (.bl true))],rfl,hit _ r rfl⟩
  have q:=Ru hm hm
  rw [decide_eq_true rfl] at q
  simp only [List.set_cons_succ,List.set_cons_zero]
  simp! [z1,z2,z3,z4,z5,z6,c2,q]
 rw [G6]
 simp only [List.map_cons,List.map_nil,List.length_cons,List.length_nil,Nat.reduceAdd,Nat.reduceSub,List.replicate_succ,List.replicate_zero,List.cons_append,List.nil_append]
 rw [Fx,s0,DA,Fx,s1]
 rfl
abbrev P7(ns:List Int)(x1 x2 x3 x4 x5 x6 x7 x8 x9 x10 x11:Option Lo)(C:List Cell):FD.Env:=[some (.sh (.fls (ns.map .int))),x1,x2,x3,x4,x5,x6,x7,x8,x9,x10,x11,some (.mh C)]
theorem ZH{f:FD.Env→XO Bool}{ρ:FD.Env}:xT f ρ=(f ρ).bind fun b ρ1=>.ok (.bl b) ρ1:=rfl
theorem UO{l:List Int}{i:Int}(h0:0≤i)(h1:i < (l.length:Int)):∃ z∈l,atI (l.map Dt.int) i=some (.int z):=by
 obtain ⟨z,hz,hm⟩:=Jk h0 h1
 exact ⟨z,List.mem_of_getElem? hm,by rw [II,hz]; rfl⟩
theorem Z4{ns:List Int}(hl:ns.length≤63):∃ (x2 x3:Option Lo) (N:List Kn) (C:List Cell),1≤N.length∧N.length≤12∧(∀ k∈N,Nm k)∧∀ G:FD.Env→SOut,(An (Az 1 (Am 12 (AW K cs) (xP (Aa (Ab 0) (Aa (eC (.int 0)) Ah))) [0]) []) (An (Az 2 (xT (FD.QH (Am 12 (Ai K cs) (xP (Aa (Ab 1) (Aa (eC (.int 8)) Ah))) [1]) (xP (eC (.int 7))) Fb)) []) (An (Az 3 (FD.x2 (xP (eL (FZ (Aa (eC (.int 2)) (Aa (eC (.int 3)) (Aa (eC (.int 4)) (Aa (eC (.int 5)) (Aa (eC (.int 1)) Ah)))))))) (Am 12 (Ai K cs) (xP (Aa (Ab 1) (Aa (eC (.int 5)) Ah))) [1]) A4) []) (An (BV (FD.t1 (Ab 2) BN) (Az 3 (FD.x2 (xP (eC (.int 8))) (Am 12 (Ai K cs) (xP (Aa (Ab 1) (Aa (eC (.int 5)) Ah))) [1]) AJ) []) Ar) (An (Az 4 (Am 12 (Di K cs) (xP (Aa (Ab 1) (Aa (Ab 3) Ah))) [1,3]) []) G))))) (P7 ns none none none none none none none none none none none [])=G (P7 ns (some (.sh (.ad 0))) x2 x3 (some (.sh (.lst (N.map sD)))) none none none none none none none C):=by
 obtain ⟨b,t0,hb0⟩:=RY (K:=K) (cs:=cs) ns (k:=0) (by omega) hl []
 have a0:([F4 b]:List Cell)[0]? = some (F4 b):=rfl
 have t0:AW K cs [.fls (ns.map .int),.int 0] []=.ok (.ad 0) [F4 b]:=t0
 obtain ⟨v,C1,b1,t1,v0,v1,s1⟩:=Dv (K:=K) (cs:=cs) a0 (by omega) (s:=8) (by decide) (by decide)
 have u1:=s1.up
 obtain ⟨y,C2,b2,t2,y0,y1,s2⟩:=Dv (K:=K) (cs:=cs) s1.E3 (by omega) (s:=5) (by decide) (by decide)
 have u2:=s2.up
 obtain ⟨c,hc,hix⟩:=UO (l:=[2,3,4,5,1]) y0 y1
 have hix:atI [Dt.int 2,.int 3,.int 4,.int 5,.int 1] y=some (Dt.int c):=hix
 have hc':1≤c∧c≤5:=by
  simp only [List.mem_cons,List.not_mem_nil,or_false] at hc
  omega
 by_cases hv:v=7
 ·subst hv
  obtain ⟨q,C3,b3,t3,q0,q1,s3⟩:=Dv (K:=K) (cs:=cs) s2.E3 (by omega) (s:=5) (by decide) (by decide)
  have u3:=s3.up
  obtain ⟨n,hn⟩:∃ n:Nat,(8:Int) + q=(n:Int):=⟨(8 + q).toNat,by omega⟩
  obtain ⟨N,C4,b4,t4,lN,hN,s4⟩:=Rg (K:=K) (cs:=cs) s3.E3 (by omega) (k:=n) (by omega)
  refine ⟨some (.sh (.bl true)),some (.sh (.int n)),N,C4,by omega,by omega,hN,fun G=>?_⟩
  simp! [ZH,t0,t1,beq_self_eq_true,t2,hix,t3,hn,t4]
 ·have hv':(v == (7:Int))=false:=beq_eq_false_iff_ne.mpr hv
  obtain ⟨n,rfl⟩:∃ n:Nat,c=(n:Int):=⟨c.toNat,by omega⟩
  obtain ⟨N,C4,b4,t4,lN,hN,s4⟩:=Rg (K:=K) (cs:=cs) s2.E3 (by omega) (k:=n) (by omega)
  refine ⟨some (.sh (.bl false)),some (.sh (.int n)),N,C4,by omega,by omega,hN,fun G=>?_⟩
  simp! [ZH,t0,t1,hv',t2,hix,t4]
theorem ZI{ns:List Int}(hl:ns.length≤63){x1 x2 x3 x4:Option Lo}(C:List Cell):∃ (x5:Option Lo) (s:Int × Int) (m:Nat) (C':List Cell),Ki s∧1≤m∧m≤31∧∀ G:FD.Env→SOut,(An (Az 5 (Am 12 (AW K cs) (xP (Aa (Ab 0) (Aa (eC (.int 1)) Ah))) [0]) []) (An (Az 6 (Am 12 (CQ K cs) (xP (Aa (Ab 5) Ah)) [5]) []) (An (Az 7 (FD.x2 (xP (eL (FZ (Aa (eC (.int 1)) (Aa (eC (.int 2)) (Aa (eC (.int 4)) (Aa (eC (.int 5)) (Aa (eC (.int 3)) (Aa (eC (.int 6)) Ah))))))))) (Am 12 (Ai K cs) (xP (Aa (Ab 5) (Aa (eC (.int 6)) Ah))) [5]) A4) []) (An (Kf (FD.QH (Am 12 (Ai K cs) (xP (Aa (Ab 5) (Aa (eC (.int 8)) Ah))) [5]) (xP (eC (.int 7))) Fb) (Az 7 (FD.x2 (xP (eC (.int 10))) (Am 12 (Ai K cs) (xP (Aa (Ab 5) (Aa (eC (.int 21)) Ah))) [5]) AJ) []) Ar) G)))) (P7 ns x1 x2 x3 x4 none none none none none none none C)=G (P7 ns x1 x2 x3 x4 x5 (some (.sh (Cw s))) (some (.sh (.int m))) none none none none C'):=by
 obtain ⟨b,t0,hb0⟩:=RY (K:=K) (cs:=cs) ns (k:=1) (by omega) hl C
 have t0:AW K cs [.fls (ns.map .int),.int 1] C=.ok (.ad C.length) (C ++ [F4 b]):=t0
 have a0:(C ++ [F4 b])[C.length]? = some (F4 b):=List.getElem?_concat_length ..
 obtain ⟨s,C1,b1,t1,hs,s1⟩:=T5 (K:=K) (cs:=cs) a0 (by omega)
 have u1:=s1.up
 obtain ⟨y,C2,b2,t2,y0,y1,s2⟩:=Dv (K:=K) (cs:=cs) s1.E3 (by omega) (s:=6) (by decide) (by decide)
 have u2:=s2.up
 obtain ⟨c,hc,hix⟩:=UO (l:=[1,2,4,5,3,6]) y0 y1
 have hix:atI [Dt.int 1,.int 2,.int 4,.int 5,.int 3,.int 6] y=some (Dt.int c):=hix
 have hc':1≤c∧c≤6:=by
  simp only [List.mem_cons,List.not_mem_nil,or_false] at hc
  omega
 obtain ⟨v,C3,b3,t3,v0,v1,s3⟩:=Dv (K:=K) (cs:=cs) s2.E3 (by omega) (s:=8) (by decide) (by decide)
 have u3:=s3.up
 by_cases hv:v=7
 ·subst hv
  obtain ⟨q,C4,b4,t4,q0,q1,s4⟩:=Dv (K:=K) (cs:=cs) s3.E3 (by omega) (s:=21) (by decide) (by decide)
  obtain ⟨n,hn⟩:∃ n:Nat,(10:Int) + q=(n:Int):=⟨(10 + q).toNat,by omega⟩
  refine ⟨some (.sh (.ad C.length)),s,n,C4,hs,by omega,by omega,fun G=>?_⟩
  simp! [t0,t1,t2,hix,t3,beq_self_eq_true,t4,hn]
 ·have hv':(v == (7:Int))=false:=beq_eq_false_iff_ne.mpr hv
  obtain ⟨n,rfl⟩:∃ n:Nat,c=(n:Int):=⟨c.toNat,by omega⟩
  refine ⟨some (.sh (.ad C.length)),s,n,C3,hs,by omega,by omega,fun G=>?_⟩
  simp! [t0,t1,t2,hix,t3,hv']
theorem Zs{ns:List Int}(hl:ns.length≤63){N:List Kn}{s:Int × Int}{m:Nat}(hN0:1≤N.length)(hN:N.length≤12)(hn:∀ k∈N,Nm k)(hs:Ki s)(hm0:1≤m)(hm:m≤31){x1 x2 x3 x5:Option Lo}(C:List Cell):∃ (R:List Row) (C':List Cell) (b:Bx),Gd N R∧R.length=m∧C'[C.length]? = some (F4 b)∧b.n≤10000∧∀ G:FD.Env→SOut,(An (B2 8 (Ao (DQ K cs) (Aa (Ab 0) (Aa (Ab 4) (Aa (Ab 6) (Aa (Ab 7) Ah))))) [0,4,6,7]) (An (Az 9 (Am 12 (AW K cs) (xP (Aa (Ab 0) (Aa (FD.e2 (eC (.int 2)) (Ab 7) AJ) Ah))) [0,7]) []) (An (Kf (O3 (FD.Zq (Am 12 (DV K cs) (xP (Aa (Ab 8) (Aa (Ab 4) (Aa (Ab 9) (Aa (Ab 6) Ah))))) [8,4,9,6]) BN)) (Ax (eC (.bl false)) []) Ar) G))) (P7 ns x1 x2 x3 (some (.sh (.lst (N.map sD)))) x5 (some (.sh (Cw s))) (some (.sh (.int m))) none none none none C)=G (P7 ns x1 x2 x3 (some (.sh (.lst (N.map sD)))) x5 (some (.sh (Cw s))) (some (.sh (.int m))) (some (.sh (.lst (R.map rD)))) (some (.sh (.ad C.length))) none none C'):=by
 have hN0':N≠[]:=fun e=>by rw [e] at hN0; exact absurd hN0 (by decide)
 obtain ⟨R,t1,hR,lR⟩:=Yi (K:=K) (cs:=cs) hl hs hN hN0' (c:=m) (by omega)
 obtain ⟨b,t0,hb0⟩:=RY (K:=K) (cs:=cs) ns (k:=2 + m) (by omega) hl C
 rw [show ((2 + m:Nat):Int)=2 + (m:Int) by omega] at t0
 have a0:(C ++ [F4 b])[C.length]? = some (F4 b):=List.getElem?_concat_length ..
 have hR0:R≠[]:=fun e=>by rw [e] at lR; simp only [List.length_nil] at lR; omega
 obtain ⟨C',b',t2,a1,n1⟩:=YE (K:=K) (cs:=cs) (s:=s) a0 (by omega) hs hN hN0' hn hR hR0 (by omega)
 refine ⟨R,C',b',hR,lR,a1,by omega,fun G=>?_⟩
 have hz:AI (.lst (R.map rD)) [0,4,6,7] (P7 ns x1 x2 x3 (some (.sh (.lst (N.map sD)))) x5 (some (.sh (Cw s))) (some (.sh (.int m))) none none none none C)=P7 ns x1 x2 x3 (some (.sh (.lst (N.map sD)))) x5 (some (.sh (Cw s))) (some (.sh (.int m))) none none none none C:=DG rfl
 simp! [t1,hz,t0,t2]
theorem ZM(T:Tx P w K mg base cs){ns:List Int}{N:List Kn}{R:List Row}(hN:N.length≤12)(hn:∀ k∈N,Nm k)(h:Gd N R)(hR:R.length≤31){x1 x2 x3 x4 x5 x6 x7:Option Lo}{C:List Cell}{j:Nat}{b:Bx}(hb:C[j]? = some (F4 b))(hbn:b.n≤10000):Wy ((An (EN 10 (EG (Ak 11) [11] AD (eB B4 (Aa (Ab 11) Ah)) (AO (Ab 8)) [8]) [8,11,11]) (An (CU 10 (Cy (Am 12 (Ai K cs) (xP (Aa (Ab 9) (Aa (FD.e2 (eB AN (Aa (Ab 8) Ah)) (eC (.int 1)) AJ) Ah))) [9]) (xP (Aa (eC (.dic [] [])) Ah))) []) (Ax (FQ (Ao (AL K cs) (Aa (eL (FZ Ah)) Ah)) (FQ (Ao (AL K cs) (Aa (eL (FZ (Aa (eC (.dic [] [])) Ah))) Ah)) (Ao (AL K cs) (Aa (Ab 10) Ah)))) [10]))) (P7 ns x1 x2 x3 x4 x5 x6 x7 (some (.sh (.lst (R.map rD)))) (some (.sh (.ad j))) none none C))=.ok (.bl true):=by
 obtain ⟨v,C1,b1,t1,v0,v1,s1⟩:=Dv (K:=K) (cs:=cs) hb (by omega) (s:=(R.length:Nat) + 1) (by omega) (by omega)
 obtain ⟨p,rfl⟩:∃ p:Nat,v=(p:Int):=⟨v.toNat,by omega⟩
 have gl:AN [.lst (R.map rD)]=some (.int (R.length:Nat)):=by rw [DT,List.length_map]
 have c1:EG (Ak 11) [11] AD (eB B4 (Aa (Ab 11) Ah)) (AO (Ab 8)) [8] (P7 ns x1 x2 x3 x4 x5 x6 x7 (some (.sh (.lst (R.map rD)))) (some (.sh (.ad j))) none none C)=.ok (R.map rD):=
  Cg (e:=rD) rfl (by omega) fun r hr=>⟨P7 ns x1 x2 x3 x4 x5 x6 x7 (some (.sh (.lst (R.map rD)))) (some (.sh (.ad j))) none (some (.sh (rD r))) C,rfl,rfl⟩
 let Q:List Row:=R.take p ++ [[]] ++ R.drop p
 have eQ:(R.map rD).take p ++ [Dt.dic [] []] ++ (R.map rD).drop p=Q.map rD:=by
  show _=(R.take p ++ [[]] ++ R.drop p).map rD
  rw [List.map_append,List.map_append,List.map_take,List.map_drop]
  rfl
 have mQ:∀ r∈Q,r∈R∨r=[]:=fun r hr=>by
  rcases List.mem_append.mp hr with hr | hr
  ·rcases List.mem_append.mp hr with hr | hr
   ·exact .inl (List.mem_of_mem_take hr)
   ·exact .inr (List.mem_singleton.mp hr)
  ·exact .inl (List.mem_of_mem_drop hr)
 have i1:(CU 10 (Cy (Am 12 (Ai K cs) (xP (Aa (Ab 9) (Aa (FD.e2 (eB AN (Aa (Ab 8) Ah)) (eC (.int 1)) AJ) Ah))) [9]) (xP (Aa (eC (.dic [] [])) Ah))) []) (P7 ns x1 x2 x3 x4 x5 x6 x7 (some (.sh (.lst (R.map rD)))) (some (.sh (.ad j))) (some (.ol (R.map rD))) none C)=.ok .nx (P7 ns x1 x2 x3 x4 x5 x6 x7 (some (.sh (.lst (R.map rD)))) (some (.sh (.ad j))) (some (.ol (Q.map rD))) none C1):=by
  have:=OP (i:=10) (j:=p) (f:=(Cy (Am 12 (Ai K cs) (xP (Aa (Ab 9) (Aa (FD.e2 (eB AN (Aa (Ab 8) Ah)) (eC (.int 1)) AJ) Ah))) [9]) (xP (Aa (eC (.dic [] [])) Ah)))) (lk:=[]) (ρ:=P7 ns x1 x2 x3 x4 x5 x6 x7 (some (.sh (.lst (R.map rD)))) (some (.sh (.ad j))) (some (.ol (R.map rD))) none C) (ρ1:=P7 ns x1 x2 x3 x4 x5 x6 x7 (some (.sh (.lst (R.map rD)))) (some (.sh (.ad j))) (some (.ol (R.map rD))) none C1) (d:=.dic [] []) (ds:=R.map rD) (ds0:=R.map rD) rfl (by simp! [gl,t1]) (Fg) rfl (by rw [List.length_map]; omega) (by omega)
  rw [this,eQ]
  rfl
 have zQ:Sz Q:=⟨by show (R.take p ++ [[]] ++ R.drop p).length≤1000; simp only [List.length_append,List.length_take,List.length_drop,List.length_singleton]; omega,fun r hr=>by
  rcases mQ r hr with z | z
  ·have:=(h.g r z).len; omega
  ·rw [z]; simp,fun r hr=>by
  rcases mQ r hr with z | z
  ·exact (h.g r z).nd
  ·rw [z]; exact List.nodup_nil⟩
 have r1:=JK T (R:=[]) ⟨by simp,fun r hr=>(nomatch hr),fun r hr=>(nomatch hr)⟩ (fun r hr=>nomatch hr) (.inl rfl)
 have r2:=JK T (R:=[[]]) ⟨by simp,fun r hr=>(by rw [List.mem_singleton.mp hr]; simp),fun r hr=>(by rw [List.mem_singleton.mp hr]; exact List.nodup_nil)⟩ (fun r hr=>(by rw [List.mem_singleton.mp hr]; exact fun p hp=>nomatch hp)) (.inr ⟨[],List.mem_singleton.mpr rfl,rfl⟩)
 have r3:=JK T zQ (fun r hr=>by
  rcases mQ r hr with z | z
  ·exact fun q hq=>hn q.1 ((h.g r z).sub q.1 (GI (x:=q.2) hq))
  ·rw [z]; exact fun q hq=>nomatch hq) (.inr ⟨[],List.mem_append_left _ (List.mem_append_right _ (List.mem_singleton.mpr rfl)),rfl⟩)
 have r1:AL K cs [.lst []]=.ok (.bl true):=r1
 have r2:AL K cs [.lst [.dic [] []]]=.ok (.bl true):=r2
 simp! [c1,FD.CD,i1,r1,r2,r3,RU]
theorem plain(T:Tx P w K mg base cs)(ns:List Int)(hl:ns.length≤63)(hb:∀ z∈ns,Builtin.Int.intBits z≤1048576):Ml 12 (Rb K cs) [.fls (ns.map .int)]=.ok (.bl true):=by
 have e0:Dt.F5 [Dt.fls (ns.map .int)]=true:=by
  have h1:(Dt.fls (ns.map .int)).na=true:=by rw [Dt.na]; exact G2 (fun _=>rfl) ns
  rw [Dt.F5,h1]
  rfl
 rw [RI e0]
 show Wy (Rb K cs (P7 ns none none none none none none none none none none none []))=_
 unfold Rb
 obtain ⟨x2,x3,N,C1,hN0,hN,hn,ea⟩:=Z4 (K:=K) (cs:=cs) hl
 rw [ea]
 obtain ⟨x5,s,m,C2,hs,hm0,hm,eb⟩:=ZI (K:=K) (cs:=cs) hl (x1:=some (.sh (.ad 0))) (x2:=x2) (x3:=x3) (x4:=some (.sh (.lst (N.map sD)))) C1
 rw [eb]
 obtain ⟨R,C3,b,hR,lR,hb3,nb,ec⟩:=Zs (K:=K) (cs:=cs) hl hN0 hN hn hs hm0 hm (x1:=some (.sh (.ad 0))) (x2:=x2) (x3:=x3) (x5:=x5) C2
 rw [ec]
 exact ZM T (ns:=ns) hN hn hR (by omega) (x1:=some (.sh (.ad 0))) (x2:=x2) (x3:=x3) (x4:=some (.sh (.lst (N.map sD)))) (x5:=x5) (x6:=some (.sh (Cw s))) (x7:=some (.sh (.int m))) hb3 nb
end Lk13
open PySem PySem.W PyProof.Rows in
theorem PySem.Challenge.cw_bidehall_k13_normal_form_of_rows_holds : PySem.Challenge.rw_bidehall_k13_normal_form_of_rows.Holds := by
 exact @LkH13.headed ⟨fun w K mg base cs fa fd T F=>FD.V9 (Lk13.Yg T F) fun ns hl hb=>Lk13.plain T ns hl hb⟩
#print axioms PySem.Challenge.cw_bidehall_k13_normal_form_of_rows_holds
