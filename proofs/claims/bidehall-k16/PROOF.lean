import PyProof.Rows.All
import Wide.All
import OpenK.AllK
import Wide.FinOn
import HandS.ForMost
import HandS.ForExc
import HandS.CallSlots
import HandS.IsInst
import HandS.Wide
import HandS.Gcd
import HandS.Star
import HandS.Defaults
import HandS.ExcCtx
import KE.KExcSuper
import KE.KSuper
import PyProof.FString
import PyProof.FString4
import HandS.ExcSuper
import HandS.ExcIs
import HandS.TryOnly
import HandS.ExcField
import KE.KExcIs
import HandS.EndBits
import KE.RegKSuper
import HandS.Text
import HandS.StrMore
import HandS.FStr
import HandS.RaiseMore
import HandS.Style
import HandS.Codes
import HandS.SetTxtIn
import PyProof.StrBlock2
import PyProof.Rows.RuleDivmod
import HandS.More
import HandS.ClsMeth
import HandS.SetFor
import HandS.Conv
import HandS.OwnEq
import PySem.Challenge.RW_bidehall_k16_greater_and_lesser_maps
import HandS.WordsDict
import HandS.Dict
import HandS.HotCalls
import HandS.SetKeys
import HandS.SortRule
import HandS.SortOrd
import HandS.NamedTupSort
import HandS.ExcInit
import KE.GoesMore
import HandS.TupAny
import KE.SortData
import KE.DataCmp
import HandS.ListItems
import HandS.Property
import KE.GoesEnumKw
import HandS.DictComp
import HandS.Strs
import PyProof.EqAt
import KE.KCallOwn
import OpenK.KOps
import OpenK.KMeth
import KE.KItemsList
import KE.RegKParD
import HandS.SetBool
import KE.KDictPairs
import KE.OsSortAny
set_option Elab.async false
set_option linter.all false
set_option maxRecDepth 100000
set_option maxHeartbeats 8000000
namespace FD
open PySem L2
inductive Dt where
 | non | bl (b:Bool) | int (i:Int) | str (s:Str) | ty (n:String) | cls (a:Addr)
 | ad (k:Nat)
 | tup (ds:List Dt) | ptp (ds:List Dt) | ntp (ds:List Dt) | lst (ds:List Dt) | fls (ds:List Dt)
 | dic (ks:List Key) (ds:List Dt)
 | dit (ks:List (List Key)) (ds:List Dt)
 | obj (C:Addr) (ns:List Str) (ds:List Dt)
 | exn (a:Addr) (od:Option Addr) (C:Addr) (ns:List Str) (ds:List Dt)
def Dt.scal:Dt→Bool
 | .non=>true | .bl _=>true | .int _=>true | .str _=>true | .ty _=>true | .cls _=>true
 | _=>false
mutual
def Dt.pure:Dt→Bool
 | .non=>true | .bl _=>true | .int _=>true | .str _=>true | .ty _=>true | .cls _=>true
 | .tup ds=>Dt.E7 ds
 | .ptp ds=>Dt.E7 ds
 | .ntp ds=>Dt.E7 ds
 | _=>false
def Dt.E7:List Dt→Bool
 | []=>true
 | d :: ds=>d.pure && Dt.E7 ds
end
mutual
def Dt.nl:Dt→Bool
 | .non=>true | .bl _=>true | .int _=>true | .str _=>true | .ty _=>true | .cls _=>true
 | .ad _=>true
 | .tup ds=>Dt.Zf ds
 | .ptp ds=>Dt.Zf ds
 | .ntp ds=>Dt.Zf ds
 | .obj _ _ ds=>Dt.Zf ds
 | _=>false
def Dt.Zf:List Dt→Bool
 | []=>true
 | d :: ds=>d.nl && Dt.Zf ds
end
structure Exn where
 cls:Addr
 fs:List (Str × Dt)
inductive Out (α:Type) where
 | ok (a:α) | exc (x:Exn) | bad
def Out.bind{α β:Type}(o:Out α)(f:α→Out β):Out β:=match o with
 | .ok a=>f a
 | .exc x=>.exc x
 | .bad=>.bad
@[simp] theorem Out.AA{α β:Type}(a:α)(f:α→Out β):(Out.ok a).bind f=f a:=rfl
theorem Out.bind_assoc{α β γ:Type}(o:Out α)(f:α→Out β)(g:β→Out γ):(o.bind f).bind g=o.bind fun a=>(f a).bind g:=by
 cases o <;> rfl
theorem Out.Gh{α β:Type}{o:Out α}{f:α→Out β}{b:β}(h:o.bind f=.ok b):∃ a,o=.ok a∧f a=.ok b:=by
 cases o with
 | ok a=>exact ⟨a,rfl,h⟩
 | exc x=>cases h
 | bad=>cases h
abbrev Ad:=Addr→Prop
structure Mu where
 l:List Addr
 fix:Bool
structure KM where
 K:PySem.W.Frag
 mu:Mu
def lH(K:PySem.W.Frag)(a:Addr)(xs:List V):Prop:=∃ (o:Obj) (its:Array Value) (n:Nat),K.lookup a=some o∧o.cls=.type "tuple"∧o.data=.seq its n∧its.size≤sizeLine∧Vals xs its.toList
def jT(K:PySem.W.Frag)(a:Addr)(xs:List V):Prop:=∃ (o:Obj) (its:Array Value) (n:Nat),K.lookup a=some o∧o.cls=.type "list"∧o.dict=none∧o.data=.seq its n∧its.size≤sizeLine∧Vals xs its.toList
def Vk(H:Hp)(a:Addr)(kvs:List (Key × V)):Prop:=H a=some (.dK kvs)∨∃ o,H a=some (.frz o (.dK kvs))
def UI(H:Hp)(a:Addr)(kvs:List (List Key × V)):Prop:=H a=some (.dT kvs)∨∃ o,H a=some (.frz o (.dT kvs))
mutual
def Rep(K:KM)(H:Hp)(A:Ad):Dt→V→Prop
 | .non,v=>v=.non
 | .bl b,v=>v=.bl b
 | .int i,v=>v=.int i
 | .str s,v=>v=.str s
 | .ty n,v=>v=.ty n
 | .cls a,v=>v=.ref a
 | .ad k,v=>∃ a,K.mu.l[k]? = some a∧v=.ref a
 | .tup ds,v=>∃ a vs,v=.ref a∧((¬ A a∧H a=some (.tup vs))∨lH K.K a vs)∧Ah K H A ds vs
 | .ptp ds,v=>∃ a vs,v=.ref a∧(¬ A a∧∃ o,H a=some (.frz o (.tup vs))∧o.dict=none)∧Ah K H A ds vs
 | .ntp ds,v=>∃ a vs,v=.ref a∧(¬ A a∧H a=some (.tup vs))∧Ah K H A ds vs
 | .lst ds,v=>∃ a vs,v=.ref a∧¬ A a∧H a=some (.lst vs)∧Ah K H A ds vs
 | .fls ds,v=>∃ a vs,v=.ref a∧((¬ A a∧∃ o,H a=some (.frz o (.lst vs)))∨jT K.K a vs)∧Ah K H A ds vs
 | .dic ks ds,v=>∃ a kvs,v=.ref a∧¬ A a∧Vk H a kvs∧kvs.map (·.1)=ks∧Ah K H A ds (kvs.map (·.2))
 | .dit ks ds,v=>∃ a kvs,v=.ref a∧¬ A a∧UI H a kvs∧kvs.map (·.1)=ks∧Ah K H A ds (kvs.map (·.2))
 | .obj C ns ds,v=>∃ a dx fs,v=.ref a∧¬ A a∧H a=some (.ins C dx fs)∧fs.map (·.1)=ns∧Ah K H A ds (fs.map (·.2))
 | .exn a od _ ns ds,v=>∃ fs:List (Str × V),v=.ref a∧((od=none∧fs=[])∨∃ d,od=some d∧¬ A d∧H d=some (.xd fs))∧fs.map (·.1)=ns∧Ah K H A ds (fs.map (·.2))
def Ah(K:KM)(H:Hp)(A:Ad):List Dt→List V→Prop
 | [],vs=>vs=[]
 | d :: ds,vs=>∃ v r,vs=v :: r∧Rep K H A d v∧Ah K H A ds r
end
structure Xt (m m':Mu):Prop where
 get:∀ (k:Nat) (a:Addr),m.l[k]? = some a→m'.l[k]? = some a
 fx:m'.fix=m.fix
 stay:m.fix=true→m'=m
theorem Xt.refl(m:Mu):Xt m m:=⟨fun _ _ h=>h,rfl,fun _=>rfl⟩
theorem Xt.trans{m m' m'':Mu}(h:Xt m m')(h':Xt m' m''):Xt m m'':=⟨fun k a e=>h'.get k a (h.get k a e),h'.fx.trans h.fx,fun e=>(h'.stay (h.fx.trans e)).trans (h.stay e)⟩
theorem Vk.keep{H H':Hp}{a:Addr}{kvs:List (Key × V)}(hk:∀ o,H a=some o→H' a=some o)(h:Vk H a kvs):Vk H' a kvs:=h.imp (hk _) fun ⟨o,e⟩=>⟨o,hk _ e⟩
theorem UI.keep{H H':Hp}{a:Addr}{kvs:List (List Key × V)}(hk:∀ o,H a=some o→H' a=some o)(h:UI H a kvs):UI H' a kvs:=h.imp (hk _) fun ⟨o,e⟩=>⟨o,hk _ e⟩
section
variable {F:PySem.W.Frag} {m m':Mu} {K:KM} {H H':Hp} {A A':Ad}
mutual
theorem Rep.gen(hm:∀ (k:Nat) (a:Addr),m.l[k]? = some a→m'.l[k]? = some a)(hk:∀ a o,¬ A a→H a=some o→H' a=some o)(ha:∀ a,A' a→A a):∀ (d:Dt) (v:V),Rep ⟨F,m⟩ H A d v→Rep ⟨F,m'⟩ H' A' d v
 | .non,_,h=>h
 | .bl _,_,h=>h
 | .int _,_,h=>h
 | .str _,_,h=>h
 | .ty _,_,h=>h
 | .cls _,_,h=>h
 | .ad k,_,h=>by
  unfold Rep at h ⊢
  obtain ⟨a,e,h⟩:=h
  exact ⟨a,hm k a e,h⟩
 | .tup ds,_,h=>by
  unfold Rep at h ⊢
  obtain ⟨a,vs,e,h1,h2⟩:=h
  exact ⟨a,vs,e,h1.imp (fun ⟨x,y⟩=>⟨fun z=>x (ha _ z),hk _ _ x y⟩) id,Ah.gen hm hk ha ds vs h2⟩
 | .ptp ds,_,h=>by
  unfold Rep at h ⊢
  obtain ⟨a,vs,e,⟨x,o,y,yd⟩,h2⟩:=h
  exact ⟨a,vs,e,⟨fun z=>x (ha _ z),o,hk _ _ x y,yd⟩,Ah.gen hm hk ha ds vs h2⟩
 | .ntp ds,_,h=>by
  unfold Rep at h ⊢
  obtain ⟨a,vs,e,⟨x,y⟩,h2⟩:=h
  exact ⟨a,vs,e,⟨fun z=>x (ha _ z),hk _ _ x y⟩,Ah.gen hm hk ha ds vs h2⟩
 | .lst ds,_,h=>by
  unfold Rep at h ⊢
  obtain ⟨a,vs,e,x,y,h2⟩:=h
  exact ⟨a,vs,e,fun z=>x (ha _ z),hk _ _ x y,Ah.gen hm hk ha ds vs h2⟩
 | .fls ds,_,h=>by
  unfold Rep at h ⊢
  obtain ⟨a,vs,e,h1,h2⟩:=h
  exact ⟨a,vs,e,h1.imp (fun ⟨x,o,y⟩=>⟨fun z=>x (ha _ z),o,hk _ _ x y⟩) id,Ah.gen hm hk ha ds vs h2⟩
 | .dic ks ds,_,h=>by
  unfold Rep at h ⊢
  obtain ⟨a,kvs,e,x,y,h1,h2⟩:=h
  exact ⟨a,kvs,e,fun z=>x (ha _ z),y.keep (hk _ · x),h1,Ah.gen hm hk ha ds _ h2⟩
 | .dit ks ds,_,h=>by
  unfold Rep at h ⊢
  obtain ⟨a,kvs,e,x,y,h1,h2⟩:=h
  exact ⟨a,kvs,e,fun z=>x (ha _ z),y.keep (hk _ · x),h1,Ah.gen hm hk ha ds _ h2⟩
 | .exn a od C ns ds,_,h=>by
  unfold Rep at h ⊢
  obtain ⟨fs,e,h1,h2,h3⟩:=h
  exact ⟨fs,e,h1.imp id (fun ⟨d,e1,x,y⟩=>⟨d,e1,fun z=>x (ha _ z),hk _ _ x y⟩),h2,Ah.gen hm hk ha ds _ h3⟩
 | .obj C ns ds,_,h=>by
  unfold Rep at h ⊢
  obtain ⟨a,dx,fs,e,x,y,h1,h2⟩:=h
  exact ⟨a,dx,fs,e,fun z=>x (ha _ z),hk _ _ x y,h1,Ah.gen hm hk ha ds _ h2⟩
theorem Ah.gen(hm:∀ (k:Nat) (a:Addr),m.l[k]? = some a→m'.l[k]? = some a)(hk:∀ a o,¬ A a→H a=some o→H' a=some o)(ha:∀ a,A' a→A a):∀ (ds:List Dt) (vs:List V),Ah ⟨F,m⟩ H A ds vs→Ah ⟨F,m'⟩ H' A' ds vs
 | [],_,h=>h
 | d :: ds,_,h=>by
  unfold Ah at h ⊢
  obtain ⟨v,r,e,h1,h2⟩:=h
  exact ⟨v,r,e,Rep.gen hm hk ha d v h1,Ah.gen hm hk ha ds r h2⟩
end
theorem Rep.mono(hk:∀ a o,¬ A a→H a=some o→H' a=some o)(ha:∀ a,A' a→A a)(d:Dt)(v:V)(h:Rep K H A d v):Rep K H' A' d v:=Rep.gen (F:=K.K) (m:=K.mu) (m':=K.mu) (fun _ _ e=>e) hk ha d v h
theorem Ah.mono(hk:∀ a o,¬ A a→H a=some o→H' a=some o)(ha:∀ a,A' a→A a)(d:List Dt)(v:List V)(h:Ah K H A d v):Ah K H' A' d v:=Ah.gen (F:=K.K) (m:=K.mu) (m':=K.mu) (fun _ _ e=>e) hk ha d v h
theorem Rep.ext(hm:Xt m m'){d:Dt}{v:V}(h:Rep ⟨F,m⟩ H A d v):Rep ⟨F,m'⟩ H A d v:=Rep.gen hm.get (fun _ _ _ e=>e) (fun _ z=>z) d v h
theorem Ah.ext(hm:Xt m m'){d:List Dt}{v:List V}(h:Ah ⟨F,m⟩ H A d v):Ah ⟨F,m'⟩ H A d v:=Ah.gen hm.get (fun _ _ _ e=>e) (fun _ z=>z) d v h
theorem Rep.fx{l:List Addr}{b b':Bool}{d:Dt}{v:V}(h:Rep ⟨F,⟨l,b⟩⟩ H A d v):Rep ⟨F,⟨l,b'⟩⟩ H A d v:=Rep.gen (m:=⟨l,b⟩) (m':=⟨l,b'⟩) (fun _ _ e=>e) (fun _ _ _ e=>e) (fun _ z=>z) d v h
theorem Ah.fx{l:List Addr}{b b':Bool}{d:List Dt}{v:List V}(h:Ah ⟨F,⟨l,b⟩⟩ H A d v):Ah ⟨F,⟨l,b'⟩⟩ H A d v:=Ah.gen (m:=⟨l,b⟩) (m':=⟨l,b'⟩) (fun _ _ e=>e) (fun _ _ _ e=>e) (fun _ z=>z) d v h
theorem Rep.same(hs:Same H H'){d:Dt}{v:V}(h:Rep K H A d v):Rep K H' A d v:=Rep.mono (fun a o _ e=>hs a o e) (fun _ z=>z) d v h
theorem Ah.same(hs:Same H H'){d:List Dt}{v:List V}(h:Ah K H A d v):Ah K H' A d v:=Ah.mono (fun a o _ e=>hs a o e) (fun _ z=>z) d v h
theorem Rep.BZ(ha:∀ a,A' a→A a){d:Dt}{v:V}(h:Rep K H A d v):Rep K H A' d v:=Rep.mono (fun a o _ e=>e) ha d v h
theorem Ah.BZ(ha:∀ a,A' a→A a){d:List Dt}{v:List V}(h:Ah K H A d v):Ah K H A' d v:=Ah.mono (fun a o _ e=>e) ha d v h
theorem Rep.scal{d:Dt}{v:V}(s:d.scal=true)(h:Rep K H A d v):Rep K H' A' d v:=by
 cases d <;> first | exact h | (cases s)
mutual
theorem Rep.Ol(hm:∀ a,A' a→Mut (H a)):∀ (d:Dt) (v:V),d.pure=true→Rep ⟨F,m⟩ H A d v→Rep ⟨F,m'⟩ H A' d v
 | .non,_,_,h=>h
 | .bl _,_,_,h=>h
 | .int _,_,_,h=>h
 | .str _,_,_,h=>h
 | .ty _,_,_,h=>h
 | .cls _,_,_,h=>h
 | .tup ds,_,p,h=>by
  unfold Rep at h ⊢
  obtain ⟨a,vs,e,h1,h2⟩:=h
  exact ⟨a,vs,e,h1.imp (fun ⟨x,y⟩=>⟨fun z=>by have q:=hm a z; rw [y] at q; exact q,y⟩) id,Ah.Ol hm ds vs (by unfold Dt.pure at p; exact p) h2⟩
 | .ptp ds,_,p,h=>by
  unfold Rep at h ⊢
  obtain ⟨a,vs,e,⟨x,o,y,yd⟩,h2⟩:=h
  exact ⟨a,vs,e,⟨fun z=>by have q:=hm a z; rw [y] at q; exact q,o,y,yd⟩,Ah.Ol hm ds vs (by unfold Dt.pure at p; exact p) h2⟩
 | .ntp ds,_,p,h=>by
  unfold Rep at h ⊢
  obtain ⟨a,vs,e,⟨x,y⟩,h2⟩:=h
  exact ⟨a,vs,e,⟨fun z=>by have q:=hm a z; rw [y] at q; exact q,y⟩,Ah.Ol hm ds vs (by unfold Dt.pure at p; exact p) h2⟩
 | .ad _,_,p,_=>by simp [Dt.pure] at p
 | .lst ds,_,p,_=>by simp [Dt.pure] at p
 | .fls ds,_,p,_=>by simp [Dt.pure] at p
 | .dic ks ds,_,p,_=>by simp [Dt.pure] at p
 | .dit ks ds,_,p,_=>by simp [Dt.pure] at p
 | .obj C ns ds,_,p,_=>by simp [Dt.pure] at p
 | .exn _ _ _ _ _,_,p,_=>by simp [Dt.pure] at p
theorem Ah.Ol(hm:∀ a,A' a→Mut (H a)):∀ (ds:List Dt) (vs:List V),Dt.E7 ds=true→Ah ⟨F,m⟩ H A ds vs→Ah ⟨F,m'⟩ H A' ds vs
 | [],_,_,h=>h
 | d :: ds,_,p,h=>by
  unfold Ah at h ⊢
  obtain ⟨v,r,e,h1,h2⟩:=h
  unfold Dt.E7 at p
  rw [Bool.and_eq_true] at p
  exact ⟨v,r,e,Rep.Ol hm d v p.1 h1,Ah.Ol hm ds r p.2 h2⟩
end
theorem Rep.pure(hm:∀ a,A' a→Mut (H a))(d:Dt)(v:V)(p:d.pure=true)(h:Rep K H A d v):Rep K H A' d v:=Rep.Ol (F:=K.K) (m:=K.mu) (m':=K.mu) hm d v p h
theorem Ah.pure(hm:∀ a,A' a→Mut (H a))(d:List Dt)(v:List V)(p:Dt.E7 d=true)(h:Ah K H A d v):Ah K H A' d v:=Ah.Ol (F:=K.K) (m:=K.mu) (m':=K.mu) hm d v p h
def LD:Option HO→Prop
 | some (.lst _)=>True
 | some (.dK _)=>True
 | some (.dT _)=>True
 | _=>False
mutual
theorem Rep.nl(hm:∀ a,A' a→A a∨LD (H a)):∀ (d:Dt) (v:V),d.nl=true→Rep K H A d v→Rep K H A' d v
 | .non,_,_,h=>h
 | .bl _,_,_,h=>h
 | .int _,_,_,h=>h
 | .str _,_,_,h=>h
 | .ty _,_,_,h=>h
 | .cls _,_,_,h=>h
 | .ad _,_,_,h=>h
 | .tup ds,_,p,h=>by
  unfold Rep at h ⊢
  obtain ⟨a,vs,e,h1,h2⟩:=h
  exact ⟨a,vs,e,h1.imp (fun ⟨x,y⟩=>⟨fun z=>(hm a z).elim x fun q=>by rw [y] at q; exact q,y⟩) id,Ah.nl hm ds vs (by unfold Dt.nl at p; exact p) h2⟩
 | .ptp ds,_,p,h=>by
  unfold Rep at h ⊢
  obtain ⟨a,vs,e,⟨x,o,y,yd⟩,h2⟩:=h
  exact ⟨a,vs,e,⟨fun z=>(hm a z).elim x fun q=>by rw [y] at q; exact q,o,y,yd⟩,Ah.nl hm ds vs (by unfold Dt.nl at p; exact p) h2⟩
 | .ntp ds,_,p,h=>by
  unfold Rep at h ⊢
  obtain ⟨a,vs,e,⟨x,y⟩,h2⟩:=h
  exact ⟨a,vs,e,⟨fun z=>(hm a z).elim x fun q=>by rw [y] at q; exact q,y⟩,Ah.nl hm ds vs (by unfold Dt.nl at p; exact p) h2⟩
 | .obj C ns ds,_,p,h=>by
  unfold Rep at h ⊢
  obtain ⟨a,dx,fs,e,x,y,h1,h2⟩:=h
  exact ⟨a,dx,fs,e,fun z=>(hm a z).elim x fun q=>by rw [y] at q; exact q,y,h1,Ah.nl hm ds _ (by unfold Dt.nl at p; exact p) h2⟩
 | .lst ds,_,p,_=>by simp [Dt.nl] at p
 | .fls ds,_,p,_=>by simp [Dt.nl] at p
 | .dic ks ds,_,p,_=>by simp [Dt.nl] at p
 | .dit ks ds,_,p,_=>by simp [Dt.nl] at p
 | .exn _ _ _ _ _,_,p,_=>by simp [Dt.nl] at p
theorem Ah.nl(hm:∀ a,A' a→A a∨LD (H a)):∀ (ds:List Dt) (vs:List V),Dt.Zf ds=true→Ah K H A ds vs→Ah K H A' ds vs
 | [],_,_,h=>h
 | d :: ds,_,p,h=>by
  unfold Ah at h ⊢
  obtain ⟨v,r,e,h1,h2⟩:=h
  unfold Dt.Zf at p
  rw [Bool.and_eq_true] at p
  exact ⟨v,r,e,Rep.nl hm d v p.1 h1,Ah.nl hm ds r p.2 h2⟩
end
theorem Vk.some{a:Addr}{kvs:List (Key × V)}(h:Vk H a kvs):H a≠none:=fun z=>h.elim (fun e=>by rw [z] at e; cases e) fun ⟨o,e⟩=>by rw [z] at e; cases e
theorem UI.some{a:Addr}{kvs:List (List Key × V)}(h:UI H a kvs):H a≠none:=fun z=>h.elim (fun e=>by rw [z] at e; cases e) fun ⟨o,e⟩=>by rw [z] at e; cases e
mutual
theorem Rep.Ge:∀ (d:Dt) (v:V),Rep K H A d v→Rep K H (fun a=>A a∨H a=none) d v
 | .non,_,h=>h
 | .bl _,_,h=>h
 | .int _,_,h=>h
 | .str _,_,h=>h
 | .ty _,_,h=>h
 | .cls _,_,h=>h
 | .ad _,_,h=>h
 | .tup ds,_,h=>by
  unfold Rep at h ⊢
  obtain ⟨a,vs,e,h1,h2⟩:=h
  exact ⟨a,vs,e,h1.imp (fun ⟨x,y⟩=>⟨fun z=>z.elim x (fun z=>by rw [y] at z; cases z),y⟩) id,Ah.Ge ds vs h2⟩
 | .ptp ds,_,h=>by
  unfold Rep at h ⊢
  obtain ⟨a,vs,e,⟨x,o,y,yd⟩,h2⟩:=h
  exact ⟨a,vs,e,⟨fun z=>z.elim x (fun z=>by rw [y] at z; cases z),o,y,yd⟩,Ah.Ge ds vs h2⟩
 | .ntp ds,_,h=>by
  unfold Rep at h ⊢
  obtain ⟨a,vs,e,⟨x,y⟩,h2⟩:=h
  exact ⟨a,vs,e,⟨fun z=>z.elim x (fun z=>by rw [y] at z; cases z),y⟩,Ah.Ge ds vs h2⟩
 | .lst ds,_,h=>by
  unfold Rep at h ⊢
  obtain ⟨a,vs,e,x,y,h2⟩:=h
  exact ⟨a,vs,e,fun z=>z.elim x (fun z=>by rw [y] at z; cases z),y,Ah.Ge ds vs h2⟩
 | .fls ds,_,h=>by
  unfold Rep at h ⊢
  obtain ⟨a,vs,e,h1,h2⟩:=h
  exact ⟨a,vs,e,h1.imp (fun ⟨x,o,y⟩=>⟨fun z=>z.elim x (fun z=>by rw [y] at z; cases z),o,y⟩) id,Ah.Ge ds vs h2⟩
 | .dic ks ds,_,h=>by
  unfold Rep at h ⊢
  obtain ⟨a,kvs,e,x,y,h1,h2⟩:=h
  exact ⟨a,kvs,e,fun z=>z.elim x y.some,y,h1,Ah.Ge ds _ h2⟩
 | .dit ks ds,_,h=>by
  unfold Rep at h ⊢
  obtain ⟨a,kvs,e,x,y,h1,h2⟩:=h
  exact ⟨a,kvs,e,fun z=>z.elim x y.some,y,h1,Ah.Ge ds _ h2⟩
 | .exn a od C ns ds,_,h=>by
  unfold Rep at h ⊢
  obtain ⟨fs,e,h1,h2,h3⟩:=h
  exact ⟨fs,e,h1.imp id (fun ⟨d,e1,x,y⟩=>⟨d,e1,fun z=>z.elim x (fun z=>by rw [y] at z; cases z),y⟩),h2,Ah.Ge ds _ h3⟩
 | .obj C ns ds,_,h=>by
  unfold Rep at h ⊢
  obtain ⟨a,dx,fs,e,x,y,h1,h2⟩:=h
  exact ⟨a,dx,fs,e,fun z=>z.elim x (fun z=>by rw [y] at z; cases z),y,h1,Ah.Ge ds _ h2⟩
theorem Ah.Ge:∀ (ds:List Dt) (vs:List V),Ah K H A ds vs→Ah K H (fun a=>A a∨H a=none) ds vs
 | [],_,h=>h
 | d :: ds,_,h=>by
  unfold Ah at h ⊢
  obtain ⟨v,r,e,h1,h2⟩:=h
  exact ⟨v,r,e,Rep.Ge d v h1,Ah.Ge ds r h2⟩
end
theorem Rep.fresh{p:Addr}(hp:H p=none)(d:Dt)(v:V)(h:Rep K H A d v):Rep K H (fun a=>A a∨a=p) d v:=(Rep.Ge d v h).BZ fun a z=>z.imp id fun e=>by rw [e]; exact hp
theorem Ah.fresh{p:Addr}(hp:H p=none)(d:List Dt)(v:List V)(h:Ah K H A d v):Ah K H (fun a=>A a∨a=p) d v:=(Ah.Ge d v h).BZ fun a z=>z.imp id fun e=>by rw [e]; exact hp
theorem Ah.length:∀ {ds:List Dt} {vs:List V},Ah K H A ds vs→vs.length=ds.length
 | [],_,h=>by unfold Ah at h; subst h; rfl
 | d :: ds,_,h=>by
  unfold Ah at h
  obtain ⟨v,r,rfl,_,h2⟩:=h
  simp [Ah.length h2]
theorem Ah.get:∀ {ds:List Dt} {vs:List V} {i:Nat} {d:Dt},Ah K H A ds vs→ds[i]? = some d→∃ v,vs[i]? = some v∧Rep K H A d v
 | [],_,_,_,_,e=>by simp at e
 | d :: ds,_,0,_,h,e=>by
  unfold Ah at h
  obtain ⟨v,r,rfl,h1,h2⟩:=h
  simp at e
  subst e
  exact ⟨v,rfl,h1⟩
 | d :: ds,_,i + 1,_,h,e=>by
  unfold Ah at h
  obtain ⟨v,r,rfl,h1,h2⟩:=h
  obtain ⟨u,e1,r1⟩:=Ah.get (i:=i) h2 (by simpa using e)
  exact ⟨u,by simpa using e1,r1⟩
theorem Ah.append:∀ {ds es:List Dt} {vs us:List V},Ah K H A ds vs→Ah K H A es us→Ah K H A (ds ++ es) (vs ++ us)
 | [],_,_,_,h,g=>by unfold Ah at h; subst h; exact g
 | d :: ds,_,_,_,h,g=>by
  unfold Ah at h
  obtain ⟨v,r,rfl,h1,h2⟩:=h
  show Ah K H A (d :: (ds ++ _)) (v :: (r ++ _))
  unfold Ah
  exact ⟨v,_,rfl,h1,Ah.append h2 g⟩
theorem Ah.nil:Ah K H A [] []:=by unfold Ah; rfl
theorem Ah.cons{d:Dt}{ds:List Dt}{v:V}{vs:List V}(h:Rep K H A d v)(g:Ah K H A ds vs):Ah K H A (d :: ds) (v :: vs):=by
 unfold Ah
 exact ⟨v,vs,rfl,h,g⟩
theorem Ah.set:∀ {ds:List Dt} {vs:List V} (i:Nat) {d:Dt} {v:V},Ah K H A ds vs→Rep K H A d v→Ah K H A (ds.set i d) (vs.set i v)
 | [],_,_,_,_,h,_=>by unfold Ah at h; subst h; exact Ah.nil
 | _ :: _,_,0,_,_,h,g=>by
  unfold Ah at h
  obtain ⟨v,r,rfl,h1,h2⟩:=h
  exact Ah.cons g h2
 | _ :: _,_,i + 1,_,_,h,g=>by
  unfold Ah at h
  obtain ⟨v,r,rfl,h1,h2⟩:=h
  exact Ah.cons h1 (Ah.set i h2 g)
theorem Ah.take:∀ {ds:List Dt} {vs:List V} (n:Nat),Ah K H A ds vs→Ah K H A (ds.take n) (vs.take n)
 | [],_,n,h=>by unfold Ah at h; subst h; simpa using Ah.nil
 | _ :: _,_,0,h=>by simpa using Ah.nil
 | _ :: _,_,n + 1,h=>by
  unfold Ah at h
  obtain ⟨v,r,rfl,h1,h2⟩:=h
  exact Ah.cons h1 (Ah.take n h2)
theorem Ah.drop:∀ {ds:List Dt} {vs:List V} (n:Nat),Ah K H A ds vs→Ah K H A (ds.drop n) (vs.drop n)
 | [],_,n,h=>by unfold Ah at h; subst h; simpa using Ah.nil
 | _ :: _,_,0,h=>h
 | _ :: _,_,n + 1,h=>by
  unfold Ah at h
  obtain ⟨v,r,rfl,h1,h2⟩:=h
  exact Ah.drop n h2
theorem Ah.ints{ns:List Int}{vs:List V}(h:Ah K H A (ns.map Dt.int) vs):vs=ns.map V.int:=by
 induction ns generalizing vs with
 | nil=>unfold Ah at h; exact h
 | cons n ns ih=>
  unfold Ah at h
  obtain ⟨v,r,rfl,h1,h2⟩:=h
  have e:v=.int n:=h1
  rw [e,ih h2]
  rfl
end
inductive Cell where
 | gone | lst (ds:List Dt) | dic (ks:List Key) (ds:List Dt) | ins (C:Addr) (ns:List Str) (ds:List Dt)
def Cell.live:Cell→Bool
 | .gone=>false
 | _=>true
def Cell.ld:Cell→Bool
 | .ins _ _ _=>false
 | _=>true
inductive Lo where
 | sh (d:Dt) | ol (ds:List Dt) | od (ks:List Key) (ds:List Dt) | ot (ks:List (List Key)) (ds:List Dt) | mh (cs:List Cell)
def Lo.d:Lo→Dt
 | .sh d=>d
 | .ol ds=>.lst ds
 | .od ks ds=>.dic ks ds
 | .ot ks ds=>.dit ks ds
 | .mh _=>.non
def Lo.UD:Lo→Bool
 | .mh _=>true
 | _=>false
def Lo.ld:Lo→Bool
 | .mh cs=>cs.all Cell.ld
 | _=>true
abbrev Env:=List (Option Lo)
def Dw(K:KM):Lo→Option (Option V)→Addr→Prop
 | .sh _,_,_=>False
 | .ol _,s,a=>s=some (some (.ref a))
 | .od _ _,s,a=>s=some (some (.ref a))
 | .ot _ _,s,a=>s=some (some (.ref a))
 | .mh cs,_,a=>∃ (k:Nat) (c:Cell),cs[k]? = some c∧c.live=true∧K.mu.l[k]? = some a
def Bw(K:KM)(ρ:Env)(σ:L2.St)(i:Nat)(a:Addr):Prop:=∃ l,ρ[i]? = some (some l)∧Dw K l σ[i]? a
def Av(K:KM)(A0:Ad)(ρ:Env)(σ:L2.St)(lk:List Nat):Ad:=fun a=>A0 a∨∃ i,i∉lk∧Bw K ρ σ i a
def G5(K:KM)(H0 H:Hp)(A:Ad):Cell→Addr→Prop
 | .gone,_=>True
 | .lst ds,a=>H0 a=none∧∃ vs,H a=some (.lst vs)∧Ah K H A ds vs
 | .dic ks ds,a=>H0 a=none∧∃ kvs:List (Key × V),H a=some (.dK kvs)∧kvs.map (·.1)=ks∧Ah K H A ds (kvs.map (·.2))
 | .ins C ns ds,a=>H0 a=none∧∃ (dx:Addr) (fs:List (Str × V)),H a=some (.ins C dx fs)∧fs.map (·.1)=ns∧Ah K H A ds (fs.map (·.2))
def cY(K:KM)(cs:List Cell):Prop:=∀ (j k:Nat) (a:Addr) (c c':Cell),cs[j]? = some c→cs[k]? = some c'→c.live=true→c'.live=true→K.mu.l[j]? = some a→K.mu.l[k]? = some a→j=k
def FA(K:KM)(H0 H:Hp)(A:Ad):Lo→Option (Option V)→Prop
 | .sh d,s=>∃ v,s=some (some v)∧Rep K H A d v
 | .ol ds,s=>∃ (a:Addr) (vs:List V),s=some (some (V.ref a))∧H0 a=none∧H a=some (.lst vs)∧Ah K H A ds vs
 | .od ks ds,s=>∃ (a:Addr) (kvs:List (Key × V)),s=some (some (V.ref a))∧H0 a=none∧H a=some (.dK kvs)∧kvs.map (·.1)=ks∧Ah K H A ds (kvs.map (·.2))
 | .ot ks ds,s=>∃ (a:Addr) (kvs:List (List Key × V)),s=some (some (V.ref a))∧H0 a=none∧H a=some (.dT kvs)∧kvs.map (·.1)=ks∧Ah K H A ds (kvs.map (·.2))
 | .mh cs,_=>cY K cs∧cs.length=K.mu.l.length∧∀ (k:Nat) (c:Cell) (a:Addr),cs[k]? = some c→K.mu.l[k]? = some a→G5 K H0 H A c a
structure StOk (K:KM) (H0:Hp) (A0:Ad) (H:Hp) (ρ:Env) (σ:L2.St):Prop where
 same:Same H0 H
 a0:∀ a,A0 a→Mut (H0 a)
 len:σ.length=ρ.length
 lo:∀ (i:Nat) (l:Lo),ρ[i]? = some (some l)→FA K H0 H (Av K A0 ρ σ []) l σ[i]?
 ap:∀ (i j:Nat) (a:Addr),Bw K ρ σ i a→Bw K ρ σ j a→i=j
 one:∀ (i j:Nat) (cs cs':List Cell),ρ[i]? = some (some (.mh cs))→ρ[j]? = some (some (.mh cs'))→i=j
 nm:K.mu.fix=true→∀ (i:Nat) (cs:List Cell),ρ[i]?≠some (some (.mh cs))
def LR(ρ:Env)(i:Nat):Env:=match ρ[i]? with
 | some (some (.mh _))=>ρ.set i none
 | some (some l)=>ρ.set i (some (.sh l.d))
 | _=>ρ
def frz(lk:List Nat)(ρ:Env):Env:=lk.foldl LR ρ
@[simp] theorem Mr(ρ:Env):frz [] ρ=ρ:=rfl
@[simp] theorem HK(i:Nat)(lk:List Nat)(ρ:Env):frz (i :: lk) ρ=frz lk (LR ρ i):=rfl
def Nt(ρ:Env)(i:Nat):Bool:=match ρ[i]? with
 | some (some l)=>l.ld
 | _=>true
def AQ(d:Dt)(lk:List Nat)(ρ:Env):Env:=if d.pure=true∨(d.nl=true∧lk.all (Nt ρ)=true) then ρ else frz lk ρ
def U8(ds:List Dt)(lk:List Nat)(ρ:Env):Env:=if Dt.E7 ds=true∨(Dt.Zf ds=true∧lk.all (Nt ρ)=true) then ρ else frz lk ρ
section
variable {F:PySem.W.Frag} {m m':Mu} {K:KM} {H0 H0' H H':Hp} {A A' A0:Ad} {ρ:Env} {σ:L2.St} {l:Lo} {sv:Option (Option V)}
theorem Rep.SH(hm:Xt m m')(hk:∀ a o,¬ A a→H a=some o→H' a=some o)(ha:∀ a,A' a→A a∨H a=none){d:Dt}{v:V}(h:Rep ⟨F,m⟩ H A d v):Rep ⟨F,m'⟩ H' A' d v:=
 Rep.gen hm.get (fun a o n e=>hk a o (fun z=>n (.inl z)) e) ha d v (Rep.Ge d v h)
theorem Ah.SH(hm:Xt m m')(hk:∀ a o,¬ A a→H a=some o→H' a=some o)(ha:∀ a,A' a→A a∨H a=none){d:List Dt}{v:List V}(h:Ah ⟨F,m⟩ H A d v):Ah ⟨F,m'⟩ H' A' d v:=
 Ah.gen hm.get (fun a o n e=>hk a o (fun z=>n (.inl z)) e) ha d v (Ah.Ge d v h)
theorem G5.gen(hm:Xt m m')(hk:∀ a o,¬ A a→H a=some o→H' a=some o)(ha:∀ a,A' a→A a∨H a=none){c:Cell}{a:Addr}(ho:c.live=true→∀ o,H a=some o→H' a=some o)(h0:c.live=true→H0 a=none→H0' a=none)(h:G5 ⟨F,m⟩ H0 H A c a):G5 ⟨F,m'⟩ H0' H' A' c a:=by
 cases c with
 | gone=>exact h
 | lst ds=>obtain ⟨z,vs,e,r⟩:=h; exact ⟨h0 rfl z,vs,ho rfl _ e,r.SH hm hk ha⟩
 | dic ks ds=>obtain ⟨z,vs,e,e2,r⟩:=h; exact ⟨h0 rfl z,vs,ho rfl _ e,e2,r.SH hm hk ha⟩
 | ins C ns ds=>obtain ⟨z,dx,fs,e,e2,r⟩:=h; exact ⟨h0 rfl z,dx,fs,ho rfl _ e,e2,r.SH hm hk ha⟩
theorem FA.gen(hm:Xt m m')(hmh:l.UD=true→m'=m)(hk:∀ a o,¬ A a→H a=some o→H' a=some o)(ha:∀ a,A' a→A a∨H a=none)(ho:∀ a,Dw ⟨F,m⟩ l sv a→∀ o,H a=some o→H' a=some o)(h0:∀ a,Dw ⟨F,m⟩ l sv a→H0 a=none→H0' a=none)
  (h:FA ⟨F,m⟩ H0 H A l sv):FA ⟨F,m'⟩ H0' H' A' l sv:=by
 cases l with
 | sh d=>obtain ⟨v,e,r⟩:=h; exact ⟨v,e,r.SH hm hk ha⟩
 | ol ds=>obtain ⟨a,vs,e,z,e1,r⟩:=h; exact ⟨a,vs,e,h0 a e z,ho a e _ e1,r.SH hm hk ha⟩
 | od ks ds=>obtain ⟨a,vs,e,z,e1,e2,r⟩:=h; exact ⟨a,vs,e,h0 a e z,ho a e _ e1,e2,r.SH hm hk ha⟩
 | ot ks ds=>obtain ⟨a,vs,e,z,e1,e2,r⟩:=h; exact ⟨a,vs,e,h0 a e z,ho a e _ e1,e2,r.SH hm hk ha⟩
 | mh cs=>
  have e:=hmh rfl
  subst e
  obtain ⟨nd,hl,hc⟩:=h
  exact ⟨nd,hl,fun k c a e1 e2=>(hc k c a e1 e2).gen hm hk ha (fun hv=>ho a ⟨k,c,e1,hv,e2⟩) (fun hv=>h0 a ⟨k,c,e1,hv,e2⟩)⟩
theorem FA.own(h:FA K H0 H A l sv){a:Addr}(o:Dw K l sv a):Mut (H a)∧H0 a=none:=by
 cases l with
 | sh d=>exact False.elim o
 | ol ds=>obtain ⟨b,vs,e,z,e1,r⟩:=h; rw [show sv=_ from o] at e; cases e; rw [e1]; exact ⟨trivial,z⟩
 | od ks ds=>obtain ⟨b,vs,e,z,e1,r⟩:=h; rw [show sv=_ from o] at e; cases e; rw [e1]; exact ⟨trivial,z⟩
 | ot ks ds=>obtain ⟨b,vs,e,z,e1,r⟩:=h; rw [show sv=_ from o] at e; cases e; rw [e1]; exact ⟨trivial,z⟩
 | mh cs=>
  obtain ⟨nd,hl,hc⟩:=h
  obtain ⟨k,c,e1,hv,e2⟩:=o
  have q:=hc k c a e1 e2
  cases c with
  | gone=>cases hv
  | lst ds=>obtain ⟨z,vs,e,r⟩:=q; rw [e]; exact ⟨trivial,z⟩
  | dic ks ds=>obtain ⟨z,vs,e,r⟩:=q; rw [e]; exact ⟨trivial,z⟩
  | ins C ns ds=>obtain ⟨z,dx,fs,e,r⟩:=q; rw [e]; exact ⟨trivial,z⟩
theorem FA.W7(h:FA K H0 H A l sv)(hd:l.ld=true){a:Addr}(o:Dw K l sv a):LD (H a):=by
 cases l with
 | sh d=>exact False.elim o
 | ol ds=>obtain ⟨b,vs,e,z,e1,r⟩:=h; rw [show sv=_ from o] at e; cases e; rw [e1]; exact trivial
 | od ks ds=>obtain ⟨b,vs,e,z,e1,r⟩:=h; rw [show sv=_ from o] at e; cases e; rw [e1]; exact trivial
 | ot ks ds=>obtain ⟨b,vs,e,z,e1,r⟩:=h; rw [show sv=_ from o] at e; cases e; rw [e1]; exact trivial
 | mh cs=>
  obtain ⟨nd,hl,hc⟩:=h
  obtain ⟨k,c,e1,hv,e2⟩:=o
  have q:=hc k c a e1 e2
  have hd':cs.all Cell.ld=true:=hd
  have hcd:=List.all_eq_true.mp hd' c (List.mem_of_getElem? e1)
  cases c with
  | gone=>cases hv
  | lst ds=>obtain ⟨z,vs,e,r⟩:=q; rw [e]; exact trivial
  | dic ks ds=>obtain ⟨z,vs,e,r⟩:=q; rw [e]; exact trivial
  | ins C ns ds=>cases hcd
theorem Nh{o:Option HO}(h:Mut o):o≠none:=fun z=>by rw [z] at h; exact h
theorem StOk.Ci(s:StOk K H0 A0 H ρ σ){i:Nat}{a:Addr}(h:Bw K ρ σ i a):(∃ o,H a=some o)∧H0 a=none:=by
 obtain ⟨l,e,h⟩:=h
 obtain ⟨q,z⟩:=(s.lo i l e).own h
 refine ⟨?_,z⟩
 cases e2:H a with
 | none=>exact absurd e2 (Nh q)
 | some o=>exact ⟨o,rfl⟩
theorem StOk.Ec(s:StOk K H0 A0 H ρ σ){lk:List Nat}{a:Addr}(h:Av K A0 ρ σ lk a):Mut (H a):=by
 rcases h with h | ⟨i,_,h⟩
 ·have q:=s.a0 a h
  cases e:H0 a with
  | none=>rw [e] at q; exact False.elim q
  | some o=>
   rw [s.same a o e]
   rw [e] at q
   exact q
 ·obtain ⟨l,e,h⟩:=h
  exact ((s.lo i l e).own h).1
theorem StOk.LG(s:StOk K H0 A0 H ρ σ){lk:List Nat}{a:Addr}(h:Av K A0 ρ σ lk a):H a≠none:=Nh (s.Ec h)
theorem StOk.Oa(s:StOk K H0 A0 H ρ σ){lk:List Nat}{a:Addr}(h:H a=none):¬ Av K A0 ρ σ lk a:=fun z=>s.LG z h
theorem Av.sub{lk lk':List Nat}(h:∀ i,i∈lk→i∈lk'){a:Addr}(z:Av K A0 ρ σ lk' a):Av K A0 ρ σ lk a:=by
 rcases z with z | ⟨i,n,z⟩
 ·exact .inl z
 ·exact .inr ⟨i,fun q=>n (h i q),z⟩
theorem Av.nil{lk:List Nat}{a:Addr}(z:Av K A0 ρ σ lk a):Av K A0 ρ σ [] a:=Av.sub (lk:=[]) (lk':=lk) (fun _ q=>nomatch q) z
theorem Av.base{lk:List Nat}{a:Addr}(z:A0 a):Av K A0 ρ σ lk a:=.inl z
theorem StOk.grow(s:StOk K H0 A0 H ρ σ)(hs:Same H H'):StOk K H0 A0 H' ρ σ:=
 ⟨s.same.trans hs,s.a0,s.len,fun i l e=>FA.gen (F:=K.K) (m:=K.mu) (m':=K.mu) (Xt.refl _) (fun _=>rfl) (fun a o _ q=>hs a o q) (fun a z=>.inl z) (fun a _ o q=>hs a o q) (fun a _ z=>z) (s.lo i l e),s.ap,s.one,s.nm⟩
theorem StOk.val(s:StOk K H0 A0 H ρ σ){i:Nat}{l:Lo}(e:ρ[i]? = some (some l))(hn:l.UD=false):∃ v,σ[i]? = some (some v)∧Rep K H (Av K A0 ρ σ [i]) l.d v:=by
 have h:=s.lo i l e
 have na:∀ a,Dw K l σ[i]? a→H0 a=none→¬ Av K A0 ρ σ [i] a:=fun a ho h0 z=>by
  rcases z with z | ⟨j,n,z⟩
  ·have q:=s.a0 a z
   rw [h0] at q
   exact q
  ·have q:=s.ap i j a ⟨l,e,ho⟩ z
   subst q
   exact n (List.mem_singleton.mpr rfl)
 cases l with
 | sh d=>
  obtain ⟨v,e1,r⟩:=h
  exact ⟨v,e1,r.BZ fun _ z=>z.nil⟩
 | ol ds=>
  obtain ⟨a,vs,e1,h0,h1,r⟩:=h
  refine ⟨_,e1,?_⟩
  show Rep K H _ (.lst ds) _
  unfold Rep
  exact ⟨a,vs,rfl,na a e1 h0,h1,r.BZ fun _ z=>z.nil⟩
 | od ks ds=>
  obtain ⟨a,kvs,e1,h0,h1,h2,r⟩:=h
  refine ⟨_,e1,?_⟩
  show Rep K H _ (.dic ks ds) _
  unfold Rep
  exact ⟨a,kvs,rfl,na a e1 h0,.inl h1,h2,r.BZ fun _ z=>z.nil⟩
 | ot ks ds=>
  obtain ⟨a,kvs,e1,h0,h1,h2,r⟩:=h
  refine ⟨_,e1,?_⟩
  show Rep K H _ (.dit ks ds) _
  unfold Rep
  exact ⟨a,kvs,rfl,na a e1 h0,.inl h1,h2,r.BZ fun _ z=>z.nil⟩
 | mh cs=>cases hn
theorem Dy{α:Type}{l:List α}{i:Nat}{x:α}(h:l[i]? = some x):l.set i x=l:=by
 apply List.ext_getElem?
 intro j
 by_cases e:i=j
 ·subst e
  rw [List.getElem?_set_self (List.getElem?_eq_some_iff.mp h).1,h]
 ·rw [List.getElem?_set_ne e]
theorem Dw.ext{m m':Mu}(hmh:l.UD=true→m'=m){a:Addr}(h:Dw ⟨F,m'⟩ l sv a):Dw ⟨F,m⟩ l sv a:=by
 cases l with
 | mh cs=>have e:=hmh rfl; subst e; exact h
 | _=>exact h
theorem StOk.OR(s:StOk ⟨F,m⟩ H0 A0 H ρ σ)(i:Nat)(l':Option Lo)(s':Option V)(hm:Xt m m')(hx:m'=m∨∃ cs,ρ[i]? = some (some (.mh cs)))(same:Same H0 H')(keep:∀ a o,H a=some o→¬ Bw ⟨F,m⟩ ρ σ i a→H' a=some o)
  (own:∀ l,l'=some l→∀ a,Dw ⟨F,m'⟩ l (some s') a→Bw ⟨F,m⟩ ρ σ i a∨H a=none)
  (one:∀ cs,l'=some (.mh cs)→∃ cs,ρ[i]? = some (some (.mh cs)))
  (ok:∀ l,l'=some l→∀ A':Ad,(∀ a,A' a→Av ⟨F,m⟩ A0 ρ σ [i] a∨Dw ⟨F,m'⟩ l (some s') a)→FA ⟨F,m'⟩ H0 H' A' l (some s')):
  StOk ⟨F,m'⟩ H0 A0 H' (ρ.set i l') (σ.set i s'):=by
 have cs':∀ j l,(ρ.set i l')[j]? = some (some l)→(j≠i∧ρ[j]? = some (some l)∧(σ.set i s')[j]? = σ[j]?)∨(j=i∧l'=some l∧(σ.set i s')[j]? = some s'):=fun j l e=>by
  by_cases h:i=j
  ·subst h
   have hl:i < ρ.length:=by
    have:=(List.getElem?_eq_some_iff.mp e).1
    rw [List.length_set] at this
    exact this
   rw [List.getElem?_set_self hl] at e
   exact .inr ⟨rfl,Option.some.inj e,List.getElem?_set_self (by rw [s.len]; exact hl)⟩
  ·rw [List.getElem?_set_ne h] at e
   exact .inl ⟨fun z=>h z.symm,e,List.getElem?_set_ne h⟩
 have mhj:∀ j l,j≠i→ρ[j]? = some (some l)→l.UD=true→m'=m:=fun j l n e q=>by
  rcases hx with hx | ⟨cs,hx⟩
  ·exact hx
  ·cases l with
   | mh cs'=>exact absurd (s.one j i _ _ e hx) n
   | _=>cases q
 have oj:∀ j a,Bw ⟨F,m'⟩ (ρ.set i l') (σ.set i s') j a→(j≠i∧Bw ⟨F,m⟩ ρ σ j a)∨(j=i∧∃ l,l'=some l∧Dw ⟨F,m'⟩ l (some s') a):=fun j a ⟨l,e,h⟩=>by
  rcases cs' j l e with ⟨n,e1,e2⟩ | ⟨n,e1,e2⟩
  ·rw [e2] at h
   exact .inl ⟨n,l,e1,h.ext (mhj j l n e1)⟩
  ·rw [e2] at h
   exact .inr ⟨n,l,e1,h⟩
 have av:∀ a,Av ⟨F,m'⟩ A0 (ρ.set i l') (σ.set i s') [] a→Av ⟨F,m⟩ A0 ρ σ [i] a∨∃ l,l'=some l∧Dw ⟨F,m'⟩ l (some s') a:=fun a z=>by
  rcases z with z | ⟨j,_,z⟩
  ·exact .inl (.inl z)
  ·rcases oj j a z with ⟨n,z⟩ | ⟨_,z⟩
   ·exact .inl (.inr ⟨j,fun q=>n (List.mem_singleton.mp q),z⟩)
   ·exact .inr z
 have ow:∀ a,(∃ l,l'=some l∧Dw ⟨F,m'⟩ l (some s') a)→Bw ⟨F,m⟩ ρ σ i a∨H a=none:=fun a ⟨l,e,h⟩=>own l e a h
 have mi:∀ (j:Nat) (c:List Cell),(ρ.set i l')[j]? = some (some (.mh c))→∃ c:List Cell,ρ[j]? = some (some (.mh c)):=fun j c e=>by
  rcases cs' j _ e with ⟨n,e1,e2⟩ | ⟨rfl,e1,e2⟩
  ·exact ⟨_,e1⟩
  ·exact one c e1
 refine ⟨same,s.a0,by rw [List.length_set,List.length_set]; exact s.len,fun j l e=>?_,fun j k a h1 h2=>?_,fun j k c1 c2 h1 h2=>?_,fun hf j c e=>?_⟩
 ·rcases cs' j l e with ⟨n,e1,e2⟩ | ⟨rfl,e1,e2⟩
  ·rw [e2]
   refine FA.gen hm (mhj j l n e1) (fun a o na q=>keep a o q fun z=>na (.inr ⟨i,(fun q=>nomatch q),z⟩)) (fun a z=>?_) (fun a ho o q=>keep a o q fun z=>n (s.ap j i a ⟨l,e1,ho⟩ z)) (fun a _ z=>z) (s.lo j l e1)
   rcases av a z with z | z
   ·exact .inl z.nil
   ·exact (ow a z).imp (fun z=>.inr ⟨i,(fun q=>nomatch q),z⟩) id
  ·rw [e2]
   exact ok l e1 _ fun a z=>(av a z).imp id fun ⟨l2,e3,z⟩=>by rw [e1] at e3; cases e3; exact z
 ·rcases oj j a h1 with ⟨n1,z1⟩ | ⟨n1,z1⟩
  ·rcases oj k a h2 with ⟨n2,z2⟩ | ⟨n2,z2⟩
   ·exact s.ap j k a z1 z2
   ·rcases ow a z2 with z2 | z2
    ·exact absurd (s.ap j i a z1 z2) n1
    ·obtain ⟨⟨o,q⟩,_⟩:=s.Ci z1
     rw [z2] at q
     cases q
  ·rcases oj k a h2 with ⟨n2,z2⟩ | ⟨n2,z2⟩
   ·rcases ow a z1 with z1 | z1
    ·exact absurd (s.ap k i a z2 z1) n2
    ·obtain ⟨⟨o,q⟩,_⟩:=s.Ci z2
     rw [z1] at q
     cases q
   ·rw [n1,n2]
 ·obtain ⟨d1,q1⟩:=mi j c1 h1
  obtain ⟨d2,q2⟩:=mi k c2 h2
  exact s.one j k _ _ q1 q2
 ·obtain ⟨d1,q1⟩:=mi j c e
  exact s.nm (hm.fx.symm.trans hf) j _ q1
theorem StOk.put(s:StOk K H0 A0 H ρ σ){i:Nat}{d:Dt}{v:V}(r:Rep K H (Av K A0 ρ σ []) d v):StOk K H0 A0 H (ρ.set i (some (.sh d))) (σ.set i (some v)):=by
 refine StOk.OR (F:=K.K) (m:=K.mu) s i _ _ (Xt.refl _) (.inl rfl) s.same (fun a o e _=>e) (fun l e a h=>?_) (fun cs e=>by cases e) fun l e A' ha=>?_
 ·cases e; exact False.elim h
 ·cases e
  exact ⟨v,rfl,r.BZ fun a z=>(ha a z).elim (fun z=>z.nil) fun z=>False.elim z⟩
theorem StOk.gone(s:StOk K H0 A0 H ρ σ)(i:Nat):StOk K H0 A0 H (ρ.set i none) (σ.set i none):=
 StOk.OR (F:=K.K) (m:=K.mu) s i _ _ (Xt.refl _) (.inl rfl) s.same (fun a o e _=>e) (fun l e=>by cases e) (fun cs e=>by cases e) fun l e=>by cases e
theorem StOk.jV{i:Nat}{d:Dt}{v:V}{lk:List Nat}{a:Addr}(z:Av K A0 (ρ.set i (some (.sh d))) (σ.set i (some v)) lk a):Av K A0 ρ σ lk a:=by
 rcases z with z | ⟨j,n,l,e,h⟩
 ·exact .inl z
 ·refine .inr ⟨j,n,?_⟩
  by_cases hj:i=j
  ·subst hj
   by_cases hl:i < ρ.length
   ·rw [List.getElem?_set_self hl] at e
    cases e
    exact False.elim h
   ·rw [List.getElem?_eq_none (by rw [List.length_set]; omega)] at e
    cases e
  ·rw [List.getElem?_set_ne hj] at e h
   exact ⟨l,e,h⟩
theorem StOk.fz1(s:StOk K H0 A0 H ρ σ)(i:Nat):StOk K H0 A0 H (LR ρ i) σ∧∀ lk a,Av K A0 (FD.LR ρ i) σ lk a→Av K A0 ρ σ (i :: lk) a:=by
 unfold FD.LR
 have key:∀ (l':Option Lo),(∀ l,l'=some l→l.UD=false∧∀ a,¬ Dw K l σ[i]? a)→∀ lk a,Av K A0 (ρ.set i l') σ lk a→Av K A0 ρ σ (i :: lk) a:=by
  rintro l' hl' lk a (z | ⟨j,n,l,e,ho⟩)
  ·exact .inl z
  ·by_cases h:i=j
   ·subst h
    have hl:i < ρ.length:=by
     have:=(List.getElem?_eq_some_iff.mp e).1
     rw [List.length_set] at this
     exact this
    rw [List.getElem?_set_self hl] at e
    exact absurd ho ((hl' l (Option.some.inj e)).2 a)
   ·rw [List.getElem?_set_ne h] at e
    exact .inr ⟨j,fun q=>(List.mem_cons.mp q).elim (fun z=>h z.symm) n,l,e,ho⟩
 have hσ:∀ v,σ[i]? = some v→σ.set i v=σ:=fun v e=>Dy e
 split
 ·rename_i cs e
  refine ⟨?_,key none (fun l e=>by cases e)⟩
  have hi:i < σ.length:=by rw [s.len]; exact (List.getElem?_eq_some_iff.mp e).1
  have q:=StOk.OR (F:=K.K) (m:=K.mu) (H':=H) s i none σ[i] (Xt.refl _) (.inl rfl) s.same (fun a o e _=>e) (fun l e=>by cases e) (fun cs e=>by cases e) fun l e=>by cases e
  rw [hσ _ (List.getElem?_eq_getElem hi)] at q
  exact q
 ·rename_i l hn e
  have hmh:l.UD=false:=by
   cases l with
   | mh cs=>exact (hn cs rfl).elim
   | _=>rfl
  obtain ⟨v,e1,r⟩:=s.val e hmh
  refine ⟨?_,key _ (fun l e=>by cases e; exact ⟨rfl,fun a z=>z⟩)⟩
  have q:=StOk.OR (F:=K.K) (m:=K.mu) (H':=H) s i (some (.sh l.d)) (some v) (Xt.refl _) (.inl rfl) s.same (fun a o e _=>e) (fun l e a h=>by cases e; exact False.elim h) (fun cs e=>by cases e) fun l2 e2 A' ha=>by
   cases e2
   exact ⟨v,rfl,r.BZ fun a z=>(ha a z).elim id fun z=>False.elim z⟩
  rw [hσ _ e1] at q
  exact q
 ·rename_i hn1 hn2
  refine ⟨s,fun lk a z=>?_⟩
  rcases z with z | ⟨j,n,l,e,ho⟩
  ·exact .inl z
  ·refine .inr ⟨j,fun q=>(List.mem_cons.mp q).elim (fun h=>?_) n,l,e,ho⟩
   subst h
   exact hn2 l e
theorem StOk.fz(s:StOk K H0 A0 H ρ σ)(lk:List Nat):StOk K H0 A0 H (frz lk ρ) σ∧∀ mk a,Av K A0 (FD.frz lk ρ) σ mk a→Av K A0 ρ σ (lk ++ mk) a:=by
 induction lk generalizing ρ with
 | nil=>exact ⟨s,fun mk a z=>z⟩
 | cons i lk ih=>
  obtain ⟨s1,h1⟩:=s.fz1 i
  obtain ⟨s2,h2⟩:=ih s1
  exact ⟨s2,fun mk a z=>h1 _ a (h2 mk a z)⟩
theorem StOk.RH(s:StOk K H0 A0 H ρ σ){d:Dt}{v:V}{lk:List Nat}(r:Rep K H (Av K A0 ρ σ lk) d v):StOk K H0 A0 H (AQ d lk ρ) σ∧Rep K H (Av K A0 (AQ d lk ρ) σ []) d v:=by
 unfold AQ
 split
 ·rename_i hd
  refine ⟨s,?_⟩
  rcases hd with hd | ⟨hd,hl⟩
  ·exact Rep.pure (fun a z=>s.Ec z) d v hd r
  ·refine Rep.nl (fun a z=>?_) d v hd r
   rcases z with z | ⟨i,n,l,e,ho⟩
   ·exact .inl (.inl z)
   ·by_cases hi:i∈lk
    ·have q:=List.all_eq_true.mp hl i hi
     unfold Nt at q
     rw [e] at q
     exact .inr ((s.lo i l e).W7 q ho)
    ·exact .inl (.inr ⟨i,hi,l,e,ho⟩)
 ·obtain ⟨s1,h1⟩:=s.fz lk
  exact ⟨s1,r.BZ fun a z=>by have q:=h1 [] a z; rwa [List.append_nil] at q⟩
theorem StOk.fzL0(s:StOk K H0 A0 H ρ σ){ds:List Dt}{vs:List V}{p:Addr}{lk:List Nat}(hs:Same H H')(hp:H p=none)(hp':H' p=some (.lst vs))(r:Ah K H' (fun a=>Av K A0 ρ σ lk a∨a=p) ds vs):StOk K H0 A0 H (U8 ds lk ρ) σ∧Ah K H' (fun a=>Av K A0 (U8 ds lk ρ) σ [] a∨a=p) ds vs:=by
 unfold U8
 split
 ·rename_i hd
  refine ⟨s,?_⟩
  rcases hd with hd | ⟨hd,hl⟩
  ·refine Ah.pure (fun a z=>?_) ds vs hd r
   rcases z with z | z
   ·exact (s.grow hs).Ec z
   ·rw [z,hp']; exact trivial
  ·refine Ah.nl (fun a z=>?_) ds vs hd r
   rcases z with (z | ⟨i,n,l,e,ho⟩) | z
   ·exact .inl (.inl (.inl z))
   ·by_cases hi:i∈lk
    ·have q:=List.all_eq_true.mp hl i hi
     unfold Nt at q
     rw [e] at q
     exact .inr (((s.grow hs).lo i l e).W7 q ho)
    ·exact .inl (.inl (.inr ⟨i,hi,l,e,ho⟩))
   ·exact .inl (.inr z)
 ·obtain ⟨s1,h1⟩:=s.fz lk
  exact ⟨s1,r.BZ fun a z=>z.imp (fun z=>by have q:=h1 [] a z; rwa [List.append_nil] at q) id⟩
theorem StOk.give(s:StOk K H0 A0 H ρ σ){i:Nat}{d:Dt}{v:V}{lk:List Nat}(hs:Same H H')(r:Rep K H' (Av K A0 ρ σ lk) d v):StOk K H0 A0 H' ((AQ d lk ρ).set i (some (.sh d))) (σ.set i (some v)):=by
 obtain ⟨s1,r1⟩:=(s.grow hs).RH r
 exact s1.put r1
theorem StOk.lS(s:StOk K H0 A0 H ρ σ){i:Nat}{ds:List Dt}{vs:List V}{p:Addr}{lk:List Nat}(hs:Same H H')(hp:H p=none)(hp':H' p=some (.lst vs))(r:Ah K H' (fun a=>Av K A0 ρ σ lk a∨a=p) ds vs):
  StOk K H0 A0 H' ((U8 ds lk ρ).set i (some (.ol ds))) (σ.set i (some (.ref p))):=by
 obtain ⟨s1,r1⟩:=s.fzL0 hs hp hp' r
 refine StOk.OR (F:=K.K) (m:=K.mu) s1 i _ _ (Xt.refl _) (.inl rfl) (s.same.trans hs) (fun a o e _=>hs a o e) (fun l e a h=>?_) (fun cs e=>by cases e) fun l e A' ha=>?_
 ·cases e
  cases (show some (some (V.ref p))=some (some (V.ref a)) from h)
  exact .inr hp
 ·cases e
  refine ⟨p,vs,rfl,s.same.free hp,hp',r1.BZ fun a z=>?_⟩
  rcases ha a z with z | z
  ·exact .inl z.nil
  ·cases (show some (some (V.ref p))=some (some (V.ref a)) from z)
   exact .inr rfl
theorem StOk.W6(s:StOk K H0 A0 H ρ σ){i:Nat}{ks:List Key}{ds:List Dt}{kvs:List (Key × V)}{p:Addr}{lk:List Nat}(hs:Same H H')(hp:H p=none)(hp':H' p=some (.dK kvs))(hk:kvs.map (·.1)=ks)(r:Ah K H' (fun a=>Av K A0 ρ σ lk a∨a=p) ds (kvs.map (·.2))):
  StOk K H0 A0 H' ((frz lk ρ).set i (some (.od ks ds))) (σ.set i (some (.ref p))):=by
 obtain ⟨s1,h1⟩:=s.fz lk
 refine StOk.OR (F:=K.K) (m:=K.mu) s1 i _ _ (Xt.refl _) (.inl rfl) (s.same.trans hs) (fun a o e _=>hs a o e) (fun l e a h=>?_) (fun cs e=>by cases e) fun l e A' ha=>?_
 ·cases e
  cases (show some (some (V.ref p))=some (some (V.ref a)) from h)
  exact .inr hp
 ·cases e
  refine ⟨p,kvs,rfl,s.same.free hp,hp',hk,r.BZ fun a z=>?_⟩
  rcases ha a z with z | z
  ·have q:=h1 [i] a z
   exact .inl (Av.sub (fun j hj=>List.mem_append_left _ hj) q)
  ·cases (show some (some (V.ref p))=some (some (V.ref a)) from z)
   exact .inr rfl
theorem StOk.SI(s:StOk K H0 A0 H ρ σ){i:Nat}{a:Addr}{u:HO}(ho:Bw K ρ σ i a):∀ b o,H b=some o→¬ Bw K ρ σ i b→upd H a u b=some o:=fun b o e n=>by
 rw [upd_ne (fun z=>by subst z; exact n ho)]
 exact e
theorem StOk.SM(s:StOk K H0 A0 H ρ σ){a:Addr}{u:HO}(h0:H0 a=none):Same H0 (upd H a u):=fun b o e=>by
 rw [upd_ne (ne_of_none e h0)]
 exact s.same b o e
theorem Av.keep{a:Addr}{u:HO}{i:Nat}(ho:Bw K ρ σ i a):∀ b o,¬ Av K A0 ρ σ [] b→H b=some o→upd H a u b=some o:=fun b o n q=>by
 rw [upd_ne (fun z=>by subst z; exact n (.inr ⟨i,(fun q=>nomatch q),ho⟩))]
 exact q
theorem StOk.jv(s:StOk K H0 A0 H ρ σ){i:Nat}{ds es:List Dt}{a:Addr}{us:List V}(e:ρ[i]? = some (some (.ol ds)))(hσ:σ[i]? = some (some (.ref a)))(r:Ah K H (Av K A0 ρ σ []) es us):
  StOk K H0 A0 (upd H a (.lst us)) (ρ.set i (some (.ol es))) σ:=by
 have ho:Bw K ρ σ i a:=⟨_,e,hσ⟩
 have h0:=(s.Ci ho).2
 have q:=StOk.OR (F:=K.K) (m:=K.mu) (H':=upd H a (.lst us)) s i (some (.ol es)) (some (.ref a)) (Xt.refl _) (.inl rfl) (s.SM h0) (s.SI ho) (fun l e b h=>by cases e; cases (show some (some (V.ref a))=some (some (V.ref b)) from h); exact .inl ho) (fun cs e=>by cases e) fun l e2 A' ha=>by
  cases e2
  refine ⟨a,us,rfl,h0,upd_same,Ah.mono (Av.keep ho) (fun b z=>?_) _ _ r⟩
  rcases ha b z with z | z
  ·exact z.nil
  ·cases (show some (some (V.ref a))=some (some (V.ref b)) from z)
   exact .inr ⟨i,(fun q=>nomatch q),ho⟩
 rw [Dy hσ] at q
 exact q
theorem StOk.kh(s:StOk K H0 A0 H ρ σ){i:Nat}{ks ks':List Key}{ds es:List Dt}{a:Addr}{kvs:List (Key × V)}(e:ρ[i]? = some (some (.od ks ds)))(hσ:σ[i]? = some (some (.ref a)))(hk:kvs.map (·.1)=ks')(r:Ah K H (Av K A0 ρ σ []) es (kvs.map (·.2))):
  StOk K H0 A0 (upd H a (.dK kvs)) (ρ.set i (some (.od ks' es))) σ:=by
 have ho:Bw K ρ σ i a:=⟨_,e,hσ⟩
 have h0:=(s.Ci ho).2
 have q:=StOk.OR (F:=K.K) (m:=K.mu) (H':=upd H a (.dK kvs)) s i (some (.od ks' es)) (some (.ref a)) (Xt.refl _) (.inl rfl) (s.SM h0) (s.SI ho) (fun l e b h=>by cases e; cases (show some (some (V.ref a))=some (some (V.ref b)) from h); exact .inl ho) (fun cs e=>by cases e) fun l e2 A' ha=>by
  cases e2
  refine ⟨a,kvs,rfl,h0,upd_same,hk,Ah.mono (Av.keep ho) (fun b z=>?_) _ _ r⟩
  rcases ha b z with z | z
  ·exact z.nil
  ·cases (show some (some (V.ref a))=some (some (V.ref b)) from z)
   exact .inr ⟨i,(fun q=>nomatch q),ho⟩
 rw [Dy hσ] at q
 exact q
theorem StOk.dU(s:StOk K H0 A0 H ρ σ){i k:Nat}{cs:List Cell}{c c':Cell}{a:Addr}{u:HO}(e:ρ[i]? = some (some (.mh cs)))(hc:cs[k]? = some c)(hl:c.live=true)(ha:K.mu.l[k]? = some a)(hl':c'.live=true)
  (ok:∀ A',(∀ b,A' b→Av K A0 ρ σ [] b)→G5 K H0 (upd H a u) A' c' a):StOk K H0 A0 (upd H a u) (ρ.set i (some (.mh (cs.set k c')))) σ:=by
 have ho:Bw K ρ σ i a:=⟨_,e,k,c,hc,hl,ha⟩
 have h0:=(s.Ci ho).2
 have hi:i < σ.length:=by rw [s.len]; exact (List.getElem?_eq_some_iff.mp e).1
 have hk:k < cs.length:=(List.getElem?_eq_some_iff.mp hc).1
 have own:∀ b,Dw K (.mh (cs.set k c')) (some σ[i]) b→Bw K ρ σ i b:=fun b ⟨j,c2,e1,hv,e2⟩=>by
  by_cases hj:k=j
  ·subst hj
   rw [ha] at e2
   cases e2
   exact ho
  ·rw [List.getElem?_set_ne hj] at e1
   exact ⟨_,e,j,c2,e1,hv,e2⟩
 have q:=StOk.OR (F:=K.K) (m:=K.mu) (H':=upd H a u) s i (some (.mh (cs.set k c'))) σ[i] (Xt.refl _) (.inl rfl) (s.SM h0) (s.SI ho) (fun l e b h=>by cases e; exact .inl (own b h)) (fun _ _=>⟨cs,e⟩) fun l e2 A' hA=>by
  cases e2
  obtain ⟨nd,hlen,hcs⟩:=s.lo i _ e
  have hA':∀ b,A' b→Av K A0 ρ σ [] b:=fun b z=>(hA b z).elim (fun z=>z.nil) fun z=>.inr ⟨i,(fun q=>nomatch q),own b z⟩
  have sp:∀ (j:Nat) (c2:Cell),(cs.set k c')[j]? = some c2→c2.live=true→∃ c3:Cell,cs[j]? = some c3∧c3.live=true:=fun j c2 e1 hv=>by
   by_cases hj:k=j
   ·subst hj
    exact ⟨c,hc,hl⟩
   ·rw [List.getElem?_set_ne hj] at e1
    exact ⟨c2,e1,hv⟩
  refine ⟨fun j1 j2 b c1 c2 e1 e2 v1 v2 m1 m2=>?_,by rw [List.length_set]; exact hlen,fun j c2 b e1 e3=>?_⟩
  ·obtain ⟨d1,f1,w1⟩:=sp j1 c1 e1 v1
   obtain ⟨d2,f2,w2⟩:=sp j2 c2 e2 v2
   exact nd j1 j2 b d1 d2 f1 f2 w1 w2 m1 m2
  by_cases hj:k=j
  ·subst hj
   rw [List.getElem?_set_self hk] at e1
   cases e1
   rw [ha] at e3
   cases e3
   exact ok A' hA'
  ·rw [List.getElem?_set_ne hj] at e1
   refine (hcs j c2 b e1 e3).gen (Xt.refl _) (Av.keep ho) (fun b z=>.inl (hA' b z)) (fun hv o q=>?_) (fun _ z=>z)
   rw [upd_ne (fun z=>by subst z; exact hj (nd k j _ c c2 hc e1 hl hv ha e3))]
   exact q
 rw [Dy (List.getElem?_eq_getElem hi)] at q
 exact q
def Mu.push(m:Mu)(p:Addr):Mu:=⟨m.l ++ [p],m.fix⟩
theorem StOk.alloc(s:StOk ⟨F,m⟩ H0 A0 H ρ σ){i:Nat}{cs:List Cell}{c:Cell}{p:Addr}(e:ρ[i]? = some (some (.mh cs)))(hs:Same H H')(hp:H p=none)
  (ok:∀ A',(∀ b,A' b→Av ⟨F,m⟩ A0 ρ σ [] b∨b=p)→G5 ⟨F,m.push p⟩ H0 H' A' c p):StOk ⟨F,m.push p⟩ H0 A0 H' (ρ.set i (some (.mh (cs ++ [c])))) σ:=by
 have hi:i < σ.length:=by rw [s.len]; exact (List.getElem?_eq_some_iff.mp e).1
 have hf:m.fix=false:=by
  cases h:m.fix with
  | false=>rfl
  | true=>exact absurd e (s.nm h i cs)
 have hm:Xt m (m.push p):=⟨fun k a h=>by show (m.l ++ [p])[k]? = _; rw [List.getElem?_append_left (List.getElem?_eq_some_iff.mp h).1]; exact h,rfl,fun z=>by rw [hf] at z; cases z⟩
 obtain ⟨nd,hlen,hcs⟩:=s.lo i _ e
 simp only at hlen
 have split:∀ (j:Nat) (c2:Cell),(cs ++ [c])[j]? = some c2→cs[j]? = some c2∨(j=cs.length∧c2=c):=fun j c2 h=>by
  by_cases hj:j < cs.length
  ·rw [List.getElem?_append_left hj] at h
   exact .inl h
  ·rw [List.getElem?_append_right (by omega)] at h
   cases hd:j - cs.length with
   | zero=>
    rw [hd] at h
    cases h
    exact .inr ⟨by omega,rfl⟩
   | succ n=>rw [hd] at h; cases h
 have at':∀ (j:Nat) (b:Addr),(m.push p).l[j]? = some b→(j < m.l.length∧m.l[j]? = some b)∨(j=m.l.length∧b=p):=fun j b h=>by
  have h:(m.l ++ [p])[j]? = some b:=h
  by_cases hj:j < m.l.length
  ·rw [List.getElem?_append_left hj] at h
   exact .inl ⟨hj,h⟩
  ·rw [List.getElem?_append_right (by omega)] at h
   cases hd:j - m.l.length with
   | zero=>
    rw [hd] at h
    cases h
    exact .inr ⟨by omega,rfl⟩
   | succ n=>rw [hd] at h; cases h
 have own:∀ b,Dw ⟨F,m.push p⟩ (.mh (cs ++ [c])) (some σ[i]) b→Bw ⟨F,m⟩ ρ σ i b∨b=p:=fun b ⟨j,c2,e1,hv,e2⟩=>by
  rcases split j c2 e1 with h | ⟨h,_⟩
  ·rcases at' j b e2 with ⟨_,h2⟩ | ⟨h2,_⟩
   ·exact .inl ⟨_,e,j,c2,h,hv,h2⟩
   ·have:=(List.getElem?_eq_some_iff.mp h).1
    omega
  ·rcases at' j b e2 with ⟨h2,_⟩ | ⟨_,h2⟩
   ·omega
   ·exact .inr h2
 have q:=StOk.OR (F:=F) (m:=m) (m':=m.push p) (H':=H') s i (some (.mh (cs ++ [c]))) σ[i] hm (.inr ⟨cs,e⟩) (s.same.trans hs) (fun a o q _=>hs a o q) (fun l e b h=>by cases e; exact (own b h).imp id fun z=>by rw [z]; exact hp) (fun _ _=>⟨cs,e⟩) fun l e2 A' hA=>by
  cases e2
  have hA':∀ b,A' b→Av ⟨F,m⟩ A0 ρ σ [] b∨b=p:=fun b z=>(hA b z).elim (fun z=>.inl z.nil) fun z=>(own b z).imp (fun z=>.inr ⟨i,(fun q=>nomatch q),z⟩) id
  have lv:∀ (j:Nat) (c2:Cell) (b:Addr),cs[j]? = some c2→c2.live=true→m.l[j]? = some b→b≠p:=fun j c2 b h1 h2 h3 z=>by
   obtain ⟨⟨o,q⟩,_⟩:=s.Ci (i:=i) (a:=b) ⟨_,e,j,c2,h1,h2,h3⟩
   rw [z,hp] at q
   cases q
  refine ⟨fun j1 j2 b c1 c2 e1 e2 v1 v2 m1 m2=>?_,by show (cs ++ [c]).length=(m.l ++ [p]).length; simp [hlen],fun j c2 b e1 e3=>?_⟩
  ·rcases split j1 c1 e1 with h1 | ⟨h1,_⟩
   ·rcases at' j1 b m1 with ⟨_,k1⟩ | ⟨k1,_⟩
    ·rcases split j2 c2 e2 with h2 | ⟨h2,_⟩
     ·rcases at' j2 b m2 with ⟨_,k2⟩ | ⟨k2,_⟩
      ·exact nd j1 j2 b c1 c2 h1 h2 v1 v2 k1 k2
      ·have:=(List.getElem?_eq_some_iff.mp h2).1
       omega
     ·rcases at' j2 b m2 with ⟨k2,_⟩ | ⟨_,k2⟩
      ·omega
      ·exact absurd k2 (lv j1 c1 b h1 v1 k1)
    ·have:=(List.getElem?_eq_some_iff.mp h1).1
     omega
   ·rcases at' j1 b m1 with ⟨k1,_⟩ | ⟨_,k1⟩
    ·omega
    ·rcases split j2 c2 e2 with h2 | ⟨h2,_⟩
     ·rcases at' j2 b m2 with ⟨_,k2⟩ | ⟨k2,_⟩
      ·exact absurd k1 (lv j2 c2 b h2 v2 k2)
      ·have:=(List.getElem?_eq_some_iff.mp h2).1
       omega
     ·rw [h1,h2]
  ·rcases split j c2 e1 with h | ⟨h,rfl⟩
   ·rcases at' j b e3 with ⟨_,h2⟩ | ⟨h2,_⟩
    ·exact (hcs j c2 b h h2).gen hm (fun a o _ q=>hs a o q) (fun b z=>(hA' b z).imp id fun z=>by rw [z]; exact hp) (fun _ o q=>hs _ o q) (fun _ z=>z)
    ·have:=(List.getElem?_eq_some_iff.mp h).1
     omega
   ·rcases at' j b e3 with ⟨h2,_⟩ | ⟨_,rfl⟩
    ·omega
    ·exact ok A' hA'
 rw [Dy (List.getElem?_eq_getElem hi)] at q
 exact q
end
end FD
namespace FD
open PySem L2
def bX:Ad:=fun _=>False
def Qu(K:PySem.W.Frag)(H:Hp)(x:Exn)(c:Value)(od:Option Addr):Prop:=
 c=.ref x.cls∧Dt.E7 (x.fs.map (·.2))=true∧match od with
  | none=>x.fs=[]
  | some d=>∃ fs:List (Str × V),H d=some (.xd fs)∧fs.map (·.1)=x.fs.map (·.1)∧Ah ⟨K,⟨[],true⟩⟩ H bX (x.fs.map (·.2)) (fs.map (·.2))
def DY(K:PySem.W.Frag)(W:WX)(H:Hp)(σ:L2.St){α:Type}(o:Out α)(R:α→Prop):Prop:=match o with
 | .ok a=>R a
 | .exc x=>∀ c od H',Same H H'→Qu K H' x c od→W c od σ H'
 | .bad=>False
def RE(K:KM)(A:Ad)(H:Hp)(Q:VK)(d:Dt):Prop:=∀ v H',Same H H'→Rep K H' A d v→Q v H'
def RL(K:KM)(A:Ad)(H:Hp)(Q:VK)(ds:List Dt):Prop:=∀ p vs H',Same H H'→H p=none→H' p=some (.lst vs)→Ah K H' (fun a=>A a∨a=p) ds vs→Q (.ref p) H'
def RA(K:KM)(A:Ad)(H:Hp)(Q:List V→Hp→Prop)(ds:List Dt):Prop:=∀ vs H',Same H H'→Ah K H' A ds vs→Q vs H'
def RT(H:Hp)(Q:Bool→Hp→Prop)(b:Bool):Prop:=∀ H',Same H H'→Q b H'
def D3(K:PySem.W.Frag)(W:WX)(te:TE)(f:Env→Out Dt)(lk:List Nat):Prop:=
 ∀ (μ:Mu) (H0:Hp) (A0:Ad) (ρ:Env) (σ:L2.St) (H:Hp) (Q:VK),StOk ⟨K,μ⟩ H0 A0 H ρ σ→DY K W H σ (f ρ) (RE ⟨K,μ⟩ (Av ⟨K,μ⟩ A0 ρ σ lk) H Q)→te σ H Q
def au(K:PySem.W.Frag)(W:WX)(te:TE)(f:Env→Out (List Dt))(lk:List Nat):Prop:=
 ∀ (μ:Mu) (H0:Hp) (A0:Ad) (ρ:Env) (σ:L2.St) (H:Hp) (Q:VK),StOk ⟨K,μ⟩ H0 A0 H ρ σ→DY K W H σ (f ρ) (RL ⟨K,μ⟩ (Av ⟨K,μ⟩ A0 ρ σ lk) H Q)→te σ H Q
def Ub(K:PySem.W.Frag)(W:WX)(ta:TA)(f:Env→Out (List Dt))(lk:List Nat):Prop:=
 ∀ (μ:Mu) (H0:Hp) (A0:Ad) (ρ:Env) (σ:L2.St) (H:Hp) (Q:List V→Hp→Prop),StOk ⟨K,μ⟩ H0 A0 H ρ σ→DY K W H σ (f ρ) (RA ⟨K,μ⟩ (Av ⟨K,μ⟩ A0 ρ σ lk) H Q)→ta σ H Q
def TY(K:PySem.W.Frag)(W:WX)(tt:TT)(f:Env→Out Bool)(lk:List Nat):Prop:=
 ∀ (μ:Mu) (H0:Hp) (A0:Ad) (ρ:Env) (σ:L2.St) (H:Hp) (Q:Bool→Hp→Prop),StOk ⟨K,μ⟩ H0 A0 H ρ σ→DY K W H σ (f ρ) (RT H Q)→tt σ H Q
def Bv(X:Cx)(W:WX)(e:Expr)(f:Env→Out Dt)(lk:List Nat):Prop:=∃ te,PE X e te∧D3 X.K W te f lk
def ZC(X:Cx)(W:WX)(e:Expr)(f:Env→Out (List Dt))(lk:List Nat):Prop:=∃ te,PE X e te∧au X.K W te f lk
def JN(X:Cx)(W:WX)(es:List Expr)(f:Env→Out (List Dt))(lk:List Nat):Prop:=∃ ta,PA X es ta∧Ub X.K W ta f lk
def VP(X:Cx)(W:WX)(e:Expr)(f:Env→Out Bool)(lk:List Nat):Prop:=∃ tt,PT X e tt∧TY X.K W tt f lk
def iQ(X:Cx)(W:WX)(e:Expr)(f:Env→Out Bool)(lk:List Nat):Prop:=∃ tt,PW X e tt∧TY X.K W tt f lk
section
variable {K:PySem.W.Frag} {κ:KM} {W:WX} {H0 H H1 H2:Hp} {A A' A0:Ad} {ρ:Env} {σ:L2.St} {lk la lb lc mk:List Nat} {Q:VK} {d:Dt} {v:V} {x:Exn} {α β:Type}
theorem Qu.same{c:Value}{od:Option Addr}(hs:Same H H1)(h:Qu K H x c od):Qu K H1 x c od:=by
 obtain ⟨e,p,h⟩:=h
 refine ⟨e,p,?_⟩
 cases od with
 | none=>exact h
 | some d=>
  obtain ⟨fs,h1,h3,h4⟩:=h
  exact ⟨fs,hs _ _ h1,h3,h4.same hs⟩
theorem DY.grow{o:Out α}{R:α→Prop}(hs:Same H H1)(h:DY K W H σ o R):DY K W H1 σ o R:=by
 cases o with
 | ok d=>exact h
 | exc x=>exact fun c od H' s r=>h c od H' (hs.trans s) r
 | bad=>exact h
theorem DY.seq{o:Out α}{g:α→Out β}{R:β→Prop}{R':α→Prop}(h:DY K W H σ (o.bind g) R)(hk:∀ a,o=.ok a→DY K W H σ (g a) R→R' a):DY K W H σ o R':=by
 cases o with
 | ok d=>exact hk d rfl h
 | exc x=>exact h
 | bad=>exact h
theorem DY.imp{o:Out α}{R R':α→Prop}(h:DY K W H σ o R)(hk:∀ a,o=.ok a→R a→R' a):DY K W H σ o R':=by
 cases o with
 | ok d=>exact hk d rfl h
 | exc x=>exact h
 | bad=>exact h
theorem bf{a:Addr}(z:Av κ A0 ρ σ (la ++ lb) a):Av κ A0 ρ σ la a:=Av.sub (fun _ h=>List.mem_append_left _ h) z
theorem bZ{a:Addr}(z:Av κ A0 ρ σ (la ++ lb) a):Av κ A0 ρ σ lb a:=Av.sub (fun _ h=>List.mem_append_right _ h) z
def GI{α:Type}:Option α→Out α
 | some a=>.ok a
 | none=>.bad
@[simp] theorem B3{α:Type}(a:α):GI (some a)=.ok a:=rfl
def Aa(i:Nat):Env→Out Dt:=fun ρ=>match ρ[i]? with
 | some (some (.mh _))=>.bad
 | some (some l)=>.ok l.d
 | _=>.bad
def eC(d:Dt):Env→Out Dt:=fun _=>.ok d
def e1(fa:Env→Out Dt)(g:Dt→Option Dt):Env→Out Dt:=fun ρ=>(fa ρ).bind fun a=>GI (g a)
def e2(fa fb:Env→Out Dt)(g:Dt→Dt→Option Dt):Env→Out Dt:=fun ρ=>(fa ρ).bind fun a=>(fb ρ).bind fun b=>GI (g a b)
def t2(fa fb:Env→Out Dt)(g:Dt→Dt→Option Bool):Env→Out Bool:=fun ρ=>(fa ρ).bind fun a=>(fb ρ).bind fun b=>GI (g a b)
def t1(fa:Env→Out Dt)(g:Dt→Option Bool):Env→Out Bool:=fun ρ=>(fa ρ).bind fun a=>GI (g a)
def eT(ft:Env→Out Bool):Env→Out Dt:=fun ρ=>(ft ρ).bind fun b=>.ok (.bl b)
def IX(f g:Env→Out Bool):Env→Out Bool:=fun ρ=>(f ρ).bind fun b=>if b=true then g ρ else .ok false
def Cb(f g:Env→Out Bool):Env→Out Bool:=fun ρ=>(f ρ).bind fun b=>if b=true then .ok true else g ρ
def AM(f:Env→Out Bool):Env→Out Bool:=fun ρ=>(f ρ).bind fun b=>.ok (!b)
def Ag:Env→Out (List Dt):=fun _=>.ok []
def Ab(f:Env→Out Dt)(g:Env→Out (List Dt)):Env→Out (List Dt):=fun ρ=>(f ρ).bind fun d=>(g ρ).bind fun ds=>.ok (d :: ds)
def GZ(f:Env→Out (List Dt)):Env→Out Dt:=fun ρ=>(f ρ).bind fun ds=>if ds.length≤16777216 then .ok (.tup ds) else .bad
def Fx(f:Env→Out (List Dt)):Env→Out (List Dt):=fun ρ=>(f ρ).bind fun ds=>if ds.length≤16777216 then .ok ds else .bad
def eL(f:Env→Out (List Dt)):Env→Out Dt:=fun ρ=>(f ρ).bind fun ds=>.ok (.lst ds)
def Sx(K:PySem.W.Frag)(r:R2)(g:Dt→Dt→Option Dt):Prop:=∀ (μ:Mu) (H:Hp) (A:Ad) (a b d:Dt) (x y:V) (Q:VK),(∀ c,A c→H c≠none)→Rep ⟨K,μ⟩ H A a x→Rep ⟨K,μ⟩ H A b y→g a b=some d→RE ⟨K,μ⟩ A H Q d→r x y H Q
def OQ(K:PySem.W.Frag)(r:R2)(g:Dt→Dt→Option Bool):Prop:=∀ (μ:Mu) (H:Hp) (A:Ad) (a b:Dt) (d:Bool) (x y:V) (Q:VK),Rep ⟨K,μ⟩ H A a x→Rep ⟨K,μ⟩ H A b y→g a b=some d→Q (.bl d) H→r x y H Q
theorem Sx.or{r r':R2}{g g':Dt→Dt→Option Dt}(h:Sx K r g)(h':Sx K r' g'):Sx K (fun x y H Q=>r x y H Q∨r' x y H Q) (fun a b=>(g a b).orElse fun _=>g' a b):=by
 intro μ H A a b d x y Q ha ra rb e q
 cases e1:g a b with
 | some d'=>
  simp only [e1,Option.orElse] at e
  cases e
  exact .inl (h μ H A a b d x y Q ha ra rb e1 q)
 | none=>
  simp only [e1,Option.orElse] at e
  exact .inr (h' μ H A a b d x y Q ha ra rb e q)
theorem OQ.or{r r':R2}{g g':Dt→Dt→Option Bool}(h:OQ K r g)(h':OQ K r' g'):OQ K (fun x y H Q=>r x y H Q∨r' x y H Q) (fun a b=>(g a b).orElse fun _=>g' a b):=by
 intro μ H A a b d x y Q ra rb e q
 cases e1:g a b with
 | some d'=>
  simp only [e1,Option.orElse] at e
  cases e
  exact .inl (h μ H A a b d x y Q ra rb e1 q)
 | none=>
  simp only [e1,Option.orElse] at e
  exact .inr (h' μ H A a b d x y Q ra rb e q)
theorem B6{o:Option α}{R:α→Prop}(h:DY K W H σ (GI o) R):∃ a,o=some a∧R a:=by
 cases o with
 | some a=>exact ⟨a,rfl,h⟩
 | none=>exact False.elim h
theorem RE.grow(hs:Same H H1)(h:RE κ A H Q d):RE κ A H1 Q d:=fun v H' s r=>h v H' (hs.trans s) r
theorem RE.now(h:RE κ A H Q d)(r:Rep κ H A d v):Q v H:=h v H (Same.refl H) r
theorem e8(i:Nat):D3 K W (tVar i) (Aa i) [i]:=by
 intro μ H0 A0 ρ σ H Q s h
 unfold Aa at h
 split at h
 ·exact False.elim h
 ·rename_i l hn e
  obtain ⟨v,e1,r⟩:=s.val e (by cases l with | mh cs=>exact (hn cs rfl).elim | _=>rfl)
  exact ⟨v,e1,RE.now h r⟩
 ·exact False.elim h
theorem RQ{v:V}{d:Dt}(hr:∀ κ H A,Rep κ H A d v):D3 K W (tC v) (eC d) []:=fun μ H0 A0 ρ σ H Q s h=>RE.now h (hr _ _ _)
theorem gD{ta tb:TE}{fa fb:Env→Out Dt}{g:Dt→Dt→Option Dt}{r:R2}(hr:Sx K r g)(ha:D3 K W ta fa la)(hb:D3 K W tb fb lb):D3 K W (tOp r ta tb) (e2 fa fb g) (la ++ lb):=by
 intro μ H0 A0 ρ σ H Q s h
 refine ha _ _ _ _ _ _ _ s (h.seq fun a _ h1 v1 H1 s1 r1=>?_)
 refine hb _ _ _ _ _ _ _ (s.grow s1) ((h1.grow s1).seq fun b _ h2 v2 H2 s2 r2=>?_)
 obtain ⟨d,e,q⟩:=B6 h2
 exact hr _ H2 _ a b d v1 v2 Q (fun c z=>(s.grow (s1.trans s2)).LG z) ((r1.same s2).BZ fun _=>bf) (r2.BZ fun _=>bZ) e (RE.grow (s1.trans s2) q)
theorem Rep.Zz(h:Rep κ H A d v):Rep κ H bX d v:=h.BZ fun _ z=>False.elim z
theorem NO{ta tb:TE}{fa fb:Env→Out Dt}{g:Dt→Dt→Option Dt}{r:R2}(hr:Sx K r g)(hg:∀ a b d,g a b=some d→d.scal=true)(ha:D3 K W ta fa la)(hb:D3 K W tb fb lb):D3 K W (tOp r ta tb) (e2 fa fb g) []:=by
 intro μ H0 A0 ρ σ H Q s h
 refine ha _ _ _ _ _ _ _ s (h.seq fun a _ h1 v1 H1 s1 r1=>?_)
 refine hb _ _ _ _ _ _ _ (s.grow s1) ((h1.grow s1).seq fun b _ h2 v2 H2 s2 r2=>?_)
 obtain ⟨d,e,q⟩:=B6 h2
 refine hr _ H2 bX a b d v1 v2 Q (fun c z=>False.elim z) (r1.same s2).Zz r2.Zz e fun v H' s' r=>?_
 exact q v H' ((s1.trans s2).trans s') (r.scal (hg _ _ _ e))
theorem ki{ta tb:TE}{fa fb:Env→Out Dt}{g:Dt→Dt→Option Bool}{r:R2}(hr:OQ K r g)(ha:D3 K W ta fa la)(hb:D3 K W tb fb lb):TY K W (tTest (tOp r ta tb)) (t2 fa fb g) []:=by
 intro μ H0 A0 ρ σ H Q s h
 refine ha _ _ _ _ _ _ _ s (h.seq fun a _ h1 v1 H1 s1 r1=>?_)
 refine hb _ _ _ _ _ _ _ (s.grow s1) ((h1.grow s1).seq fun b _ h2 v2 H2 s2 r2=>?_)
 obtain ⟨d,e,q⟩:=B6 h2
 exact hr _ H2 bX a b d v1 v2 _ (r1.same s2).Zz r2.Zz e ⟨d,rfl,q H2 (s1.trans s2)⟩
theorem eD{ta tb:TE}{fa fb:Env→Out Dt}{g:Dt→Dt→Option Bool}{r:R2}(hr:OQ K r g)(ha:D3 K W ta fa la)(hb:D3 K W tb fb lb):D3 K W (tOp r ta tb) (eT (t2 fa fb g)) []:=by
 intro μ H0 A0 ρ σ H Q s h
 unfold eT t2 at h
 rw [Out.bind_assoc] at h
 refine ha _ _ _ _ _ _ _ s (h.seq fun a _ h1 v1 H1 s1 r1=>?_)
 rw [Out.bind_assoc] at h1
 refine hb _ _ _ _ _ _ _ (s.grow s1) ((h1.grow s1).seq fun b _ h2 v2 H2 s2 r2=>?_)
 cases e:g a b with
 | none=>
  rw [e] at h2
  exact False.elim h2
 | some d=>
  rw [e] at h2
  exact hr _ H2 bX a b d v1 v2 _ (r1.same s2).Zz r2.Zz e (h2 (.bl d) H2 (s1.trans s2) rfl)
theorem cf{ta tb:TT}{fa fb:Env→Out Bool}(ha:TY K W ta fa la)(hb:TY K W tb fb lb):TY K W (tAnd ta tb) (IX fa fb) []:=by
 intro μ H0 A0 ρ σ H Q s h
 refine ha _ _ _ _ _ _ _ s (h.seq fun b _ h1 H1 s1=>?_)
 cases b with
 | true=>exact hb _ _ _ _ _ _ _ (s.grow s1) ((h1.grow s1).imp fun c _ q H2 s2=>q H2 (s1.trans s2))
 | false=>exact h1 H1 s1
theorem iT{ta tb:TT}{fa fb:Env→Out Bool}(ha:TY K W ta fa la)(hb:TY K W tb fb lb):TY K W (tOr ta tb) (Cb fa fb) []:=by
 intro μ H0 A0 ρ σ H Q s h
 refine ha _ _ _ _ _ _ _ s (h.seq fun b _ h1 H1 s1=>?_)
 cases b with
 | false=>exact hb _ _ _ _ _ _ _ (s.grow s1) ((h1.grow s1).imp fun c _ q H2 s2=>q H2 (s1.trans s2))
 | true=>exact h1 H1 s1
theorem eE{ta:TT}{fa:Env→Out Bool}(ha:TY K W ta fa la):TY K W (tNot ta) (AM fa) []:=by
 intro μ H0 A0 ρ σ H Q s h
 exact ha _ _ _ _ _ _ _ s (h.seq fun b _ h1 H1 s1=>h1 H1 s1)
theorem XZ:Ub K W tNil Ag []:=fun μ H0 A0 ρ σ H Q s h=>h [] H (Same.refl H) Ah.nil
theorem aA{ta:TE}{tr:TA}{f:Env→Out Dt}{g:Env→Out (List Dt)}(ha:D3 K W ta f la)(hr:Ub K W tr g lb):Ub K W (tCons ta tr) (Ab f g) (la ++ lb):=by
 intro μ H0 A0 ρ σ H Q s h
 refine ha _ _ _ _ _ _ _ s (h.seq fun a _ h1 v1 H1 s1 r1=>?_)
 refine hr _ _ _ _ _ _ _ (s.grow s1) ((h1.grow s1).seq fun b _ h2 v2 H2 s2 r2=>?_)
 exact h2 _ H2 (s1.trans s2) (Ah.cons ((r1.same s2).BZ fun _=>bf) (r2.BZ fun _=>bZ))
theorem Same.new{p:Addr}{o:HO}(h:H p=none):Same H (upd H p o):=fun a u e=>by
 rw [upd_ne (ne_of_none e h)]
 exact e
theorem dZ{ta:TA}{f:Env→Out (List Dt)}(ha:Ub K W ta f la):D3 K W (tTup ta) (GZ f) la:=by
 intro μ H0 A0 ρ σ H Q s h
 refine ha _ _ _ _ _ _ _ s (h.seq fun ds _ h1 vs H1 s1 r1=>?_)
 split at h1
 ·rename_i hl
  refine ⟨by rw [r1.length,sizeLine_eq]; exact hl,fun p hp=>h1 _ _ (s1.trans (Same.new hp)) ?_⟩
  unfold Rep
  exact ⟨p,vs,rfl,.inl ⟨(s.grow s1).Oa hp,upd_same⟩,r1.same (Same.new hp)⟩
 ·exact False.elim h1
theorem cg{ta:TA}{f:Env→Out (List Dt)}(ha:Ub K W ta f la):au K W (tLst ta) (Fx f) la:=by
 intro μ H0 A0 ρ σ H Q s h
 refine ha _ _ _ _ _ _ _ s (h.seq fun ds _ h1 vs H1 s1 r1=>?_)
 split at h1
 ·rename_i hl
  refine ⟨by rw [r1.length,sizeLine_eq]; exact hl,fun p hp=>h1 p vs _ (s1.trans (Same.new hp)) (s1.free hp) upd_same ?_⟩
  exact (Ah.fresh hp _ _ r1).same (Same.new hp)
 ·exact False.elim h1
theorem kg{te:TE}{f:Env→Out (List Dt)}(ha:au K W te f la):D3 K W te (eL f) la:=by
 intro μ H0 A0 ρ σ H Q s h
 refine ha _ _ _ _ _ _ _ s (h.seq fun ds _ h1 p vs H1 s1 hp hp' r=>h1 _ H1 s1 ?_)
 unfold Rep
 exact ⟨p,vs,rfl,s.Oa hp,hp',r.BZ fun _ z=>.inl z⟩
end
end FD
namespace FD
open PySem L2
theorem Bq{α:Type}{c:Prop}[Decidable c]{a b:α}(h:(if c then some a else none)=some b):c∧a=b:=by
 split at h
 ·exact ⟨‹_›,Option.some.inj h⟩
 ·cases h
def gI(C:Int→Int→Bool)(f:Int→Int→Int):Dt→Dt→Option Dt
 | .int i,.int j=>if C i j=true then some (.int (f i j)) else none
 | _,_=>none
def OL(f:Int→Int→Int):Dt→Dt→Option Dt
 | .int i,.int j=>some (.int (f i j))
 | _,_=>none
def cI(f:Int→Int→Bool):Dt→Dt→Option Bool
 | .int i,.int j=>some (f i j)
 | _,_=>none
@[simp] theorem ID(C:Int→Int→Bool)(f:Int→Int→Int)(i j:Int):gI C f (.int i) (.int j)=if C i j=true then some (.int (f i j)) else none:=rfl
@[simp] theorem L6(f:Int→Int→Int)(i j:Int):OL f (.int i) (.int j)=some (.int (f i j)):=rfl
@[simp] theorem Qh(f:Int→Int→Bool)(i j:Int):cI f (.int i) (.int j)=some (f i j):=rfl
def fY:Dt→Dt→Option Dt
 | .str x,.str y=>if x.length + y.length≤16777216 then some (.str (x ++ y)) else none
 | _,_=>none
def gO:Dt→Dt→Option Dt
 | .lst x,.lst y=>if x.length + y.length≤16777216 then some (.lst (x ++ y)) else none
 | _,_=>none
def gZ:Dt→Dt→Option Dt
 | .tup x,.tup y=>if x.length + y.length≤16777216∧x≠[] then some (.tup (x ++ y)) else none
 | _,_=>none
section
variable {K:PySem.W.Frag} {H:Hp} {A:Ad}
theorem aZ{C:Int→Int→Bool}{f:Int→Int→Int}{a b d:Dt}(h:gI C f a b=some d):∃ i j,a=.int i∧b=.int j∧C i j=true∧d=.int (f i j):=by
 cases a <;> cases b <;> try (cases h; done)
 rename_i i j
 obtain ⟨h1,h2⟩:=Bq h
 exact ⟨i,j,rfl,rfl,h1,h2.symm⟩
theorem WY{f:Int→Int→Int}{a b d:Dt}(h:OL f a b=some d):∃ i j,a=.int i∧b=.int j∧d=.int (f i j):=by
 cases a <;> cases b <;> try (cases h; done)
 rename_i i j
 cases h
 exact ⟨i,j,rfl,rfl,rfl⟩
theorem ig{f:Int→Int→Bool}{a b:Dt}{d:Bool}(h:cI f a b=some d):∃ i j,a=.int i∧b=.int j∧d=f i j:=by
 cases a <;> cases b <;> try (cases h; done)
 rename_i i j
 cases h
 exact ⟨i,j,rfl,rfl,rfl⟩
theorem Uk{C:Int→Int→Bool}{C':Int→Int→Prop}{f:Int→Int→Int}(hc:∀ i j,C i j=true→C' i j):Sx K (rI C' fun i j=>.int (f i j)) (gI C f):=by
 intro μ H A a b d x y Q _ ra rb e q
 obtain ⟨i,j,rfl,rfl,c,rfl⟩:=aZ e
 exact ⟨i,j,ra,rb,hc i j c,RE.now q rfl⟩
theorem TK{f:Int→Int→Int}:Sx K (rI0 fun i j=>.int (f i j)) (OL f):=by
 intro μ H A a b d x y Q _ ra rb e q
 obtain ⟨i,j,rfl,rfl,rfl⟩:=WY e
 exact ⟨i,j,ra,rb,RE.now q rfl⟩
theorem We{f:Int→Int→Bool}:OQ K (rI0 fun i j=>.bl (f i j)) (cI f):=by
 intro μ H A a b d x y Q ra rb e q
 obtain ⟨i,j,rfl,rfl,rfl⟩:=ig e
 exact ⟨i,j,ra,rb,q⟩
def XU:R2:=fun x y H Q=>∃ i j,x=.str i∧y=.str j∧i.length + j.length≤sizeLine∧Q (.str (i ++ j)) H
theorem XD:Sx K XU fY:=by
 intro μ H A a b d x y Q _ ra rb e q
 cases a <;> cases b <;> try (cases e; done)
 rename_i i j
 obtain ⟨h1,rfl⟩:=Bq e
 exact ⟨i,j,ra,rb,by rw [sizeLine_eq]; exact h1,RE.now q rfl⟩
theorem X1:Sx K rCat gO:=by
 intro μ H A a b d x y Q ha ra rb e q
 cases a <;> cases b <;> try (cases e; done)
 rename_i ds es
 obtain ⟨h1,rfl⟩:=Bq e
 unfold Rep at ra rb
 obtain ⟨p,vs,rfl,np,hp,rp⟩:=ra
 obtain ⟨p',us,rfl,np',hp',rp'⟩:=rb
 refine ⟨p,p',vs,us,rfl,rfl,hp,hp',by rw [rp.length,rp'.length,sizeLine_eq]; exact h1,fun c hc=>q _ _ (Same.new hc) ?_⟩
 unfold Rep
 refine ⟨c,vs ++ us,rfl,fun z=>ha c z hc,upd_same,(Ah.append rp rp').same (Same.new hc)⟩
theorem SqT.Zy{K:PySem.W.Frag}{a:Addr}{vs:List V}(h:(¬ A a∧H a=some (.tup vs))∨lH K a vs):SqT K H a vs:=by
 rcases h with ⟨_,h⟩ | h
 ·exact SqT.of h
 ·exact .inr h
theorem X4:Sx K (rCatT K) gZ:=by
 intro μ H A a b d x y Q ha ra rb e q
 cases a <;> cases b <;> try (cases e; done)
 rename_i ds es
 obtain ⟨⟨h1,h2⟩,rfl⟩:=Bq e
 have ra':=ra
 unfold Rep at ra rb
 obtain ⟨p,vs,rfl,hp,rp⟩:=ra
 obtain ⟨p',us,rfl,hp',rp'⟩:=rb
 have nv:vs≠[]:=by
  rintro rfl
  have:=rp.length
  simp at this
  exact h2 (List.length_eq_zero_iff.mp this.symm)
 refine ⟨p,p',vs,us,rfl,rfl,SqT.Zy hp,SqT.Zy hp',nv,by rw [rp.length,rp'.length,sizeLine_eq]; exact h1,?_⟩
 refine ⟨fun hu=>?_,fun _=>?_⟩
 ·subst hu
  have:es=[]:=by
   have:=rp'.length
   simp at this
   exact List.length_eq_zero_iff.mp this.symm
  subst this
  rw [List.append_nil] at q
  exact RE.now q ra'
 ·intro c hc
  refine q _ _ (Same.new hc) ?_
  unfold Rep
  exact ⟨c,vs ++ us,rfl,.inl ⟨fun z=>ha c z hc,upd_same⟩,(Ah.append rp rp').same (Same.new hc)⟩
end
section
variable {X:Cx} {pos:Pos} {a b e:Expr} {W:WX} {fa fb fc:Env→Out Dt} {la lb lc:List Nat}
def AV:Dt→Dt→Option Dt:=fun a b=>(OL (· + ·) a b).orElse fun _=>(fY a b).orElse fun _=>(gO a b).orElse fun _=>gZ a b
@[simp] theorem KG(i j:Int):AV (.int i) (.int j)=some (.int (i + j)):=rfl
@[simp] theorem ZR(i j:Str):AV (.str i) (.str j)=if i.length + j.length≤16777216 then some (.str (i ++ j)) else none:=by
 show ((if i.length + j.length≤16777216 then some (Dt.str (i ++ j)) else none).orElse fun _=>none)=_
 split <;> rfl
@[simp] theorem Nd(i j:List Dt):AV (.lst i) (.lst j)=if i.length + j.length≤16777216 then some (.lst (i ++ j)) else none:=by
 show ((if i.length + j.length≤16777216 then some (Dt.lst (i ++ j)) else none).orElse fun _=>none)=_
 split <;> rfl
theorem W9:OpR X (binaryOp .Add) (fun x y H Q=>rI0 (fun i j=>.int (i + j)) x y H Q∨(XU x y H Q∨(rCat x y H Q∨rCatT X.K x y H Q))):=op_add.or (op_add_str.or (op_cat.or op_catT))
theorem CG(ha:Bv X W a fa la)(hb:Bv X W b fb lb):Bv X W (.BinOp a .Add b pos) (e2 fa fb AV) (la ++ lb):=by
 obtain ⟨ta,pa,da⟩:=ha
 obtain ⟨tb,pb,db⟩:=hb
 exact ⟨_,pe_op W9 pa pb,gD (Sx.or TK (Sx.or XD (Sx.or X1 X4))) da db⟩
theorem Vr{f:Int→Int→Int}:∀ a b d,OL f a b=some d→d.scal=true:=fun a b d h=>by
 obtain ⟨i,j,_,_,rfl⟩:=WY h
 rfl
theorem Nl{C:Int→Int→Bool}{f:Int→Int→Int}:∀ a b d,gI C f a b=some d→d.scal=true:=fun a b d h=>by
 obtain ⟨i,j,_,_,_,rfl⟩:=aZ h
 rfl
theorem LN(ha:Bv X W a fa la)(hb:Bv X W b fb lb):Bv X W (.BinOp a .Sub b pos) (e2 fa fb (OL (· - ·))) []:=by
 obtain ⟨ta,pa,da⟩:=ha
 obtain ⟨tb,pb,db⟩:=hb
 exact ⟨_,pe_op op_sub pa pb,NO TK Vr da db⟩
def Wy(i j:Int):Bool:=decide (i.natAbs.log2 + j.natAbs.log2 < 1000000)
theorem hV(ha:Bv X W a fa la)(hb:Bv X W b fb lb):Bv X W (.BinOp a .Mult b pos) (e2 fa fb (gI Wy (· * ·))) []:=by
 obtain ⟨ta,pa,da⟩:=ha
 obtain ⟨tb,pb,db⟩:=hb
 exact ⟨_,pe_op op_mulW pa pb,NO (Uk fun i j h=>(show i.natAbs.log2 + j.natAbs.log2 < 1000000 from of_decide_eq_true h)) Nl da db⟩
def Ry(_ j:Int):Bool:=decide (j≠0∧j.natAbs.log2 < 9000)
theorem bo:OpR X (binaryOp .FloorDiv) (rI (fun _ j=>j≠0∧j.natAbs.log2 < 9000) fun i j=>.int (i.fdiv j)):=
 opI fun i j _ _ _ _ _ hc q=>PyProof.Rows.floordiv_int hc.1 q (.inl (PyProof.noPylong_of_log2 hc.2))
theorem OY(ha:Bv X W a fa la)(hb:Bv X W b fb lb):Bv X W (.BinOp a .FloorDiv b pos) (e2 fa fb (gI Ry Int.fdiv)) []:=by
 obtain ⟨ta,pa,da⟩:=ha
 obtain ⟨tb,pb,db⟩:=hb
 exact ⟨_,pe_op bo pa pb,NO (Uk fun i j h=>of_decide_eq_true h) Nl da db⟩
def ZA(_ j:Int):Bool:=decide (j≠0)
theorem NB(ha:Bv X W a fa la)(hb:Bv X W b fb lb):Bv X W (.BinOp a .Mod b pos) (e2 fa fb (gI ZA Int.fmod)) []:=by
 obtain ⟨ta,pa,da⟩:=ha
 obtain ⟨tb,pb,db⟩:=hb
 exact ⟨_,pe_op op_modN pa pb,NO (Uk fun i j h=>of_decide_eq_true h) Nl da db⟩
def Zk(i j:Int):Bool:=decide (0≤j∧j≤1000000∧i.natAbs < 2 ^ 64)
theorem Wa(ha:Bv X W a fa la)(hb:Bv X W b fb lb):Bv X W (.BinOp a .Pow b pos) (e2 fa fb (gI Zk fun i j=>i ^ j.toNat)) []:=by
 obtain ⟨ta,pa,da⟩:=ha
 obtain ⟨tb,pb,db⟩:=hb
 exact ⟨_,pe_op op_pow pa pb,NO (Uk fun i j h=>(show 0≤j∧j≤1000000∧i.natAbs < 2 ^ 64 from of_decide_eq_true h)) Nl da db⟩
theorem Ac(i:Nat){x:Str}{p:Pos}(hN:X.N[i]? = some x:=by rfl)(hv:Vis X.env.scope x:=by first | exact Or.inl rfl | exact Or.inr (Or.inl rfl) | exact Or.inr (Or.inr rfl))(hd:(x == ("__debug__" : Str))=false:=by decide)
  (hcd:(x == ("__classdict__" : Str))=false:=by decide):Bv X W (.Name x p) (Aa i) [i]:=⟨_,pe_var hN hv hd hcd,e8 i⟩
theorem Am{i:Int}{j p}:Bv X W (.Constant (.int i) j p) (eC (.int i)) []:=⟨_,pe_int,RQ fun _ _ _=>rfl⟩
theorem Cu{i:Bool}{j p}:Bv X W (.Constant (.bool i) j p) (eC (.bl i)) []:=⟨_,pe_bl,RQ fun _ _ _=>rfl⟩
theorem Pq{j p}:Bv X W (.Constant .none j p) (eC .non) []:=⟨_,pe_non,RQ fun _ _ _=>rfl⟩
theorem EJ{s:Str}{j p}:Bv X W (.Constant (.str s) j p) (eC (.str s)) []:=⟨_,pe_str,RQ fun _ _ _=>rfl⟩
theorem XY{x:Str}{v:V}{d:Dt}{p:Pos}(hg:Gl X x)(hm:∃ u,X.mg x=some u∧RelV v u)(hr:∀ κ H A,Rep κ H A d v)(hd:(x == ("__debug__" : Str))=false:=by decide):Bv X W (.Name x p) (eC d) []:=by
 obtain ⟨u,h1,h2⟩:=hm
 exact ⟨_,pe_glob hg h1 h2 hd,RQ hr⟩
theorem Hs{x:Str}{n:String}{p:Pos}(hg:Gl X x)(hm:X.mg x=none)(hv:bootBuiltins x=some (.type n))(hn:x≠"__name__":=by decide)(hd:(x == ("__debug__" : Str))=false:=by decide):Bv X W (.Name x p) (eC (.ty n)) []:=
 ⟨_,pe_bltn hg hm hv (show RelV (V.ty n) _ from rfl) hn hd,RQ fun _ _ _=>rfl⟩
end
mutual
def Dt.py:Dt→Option PyData
 | .non=>some .none
 | .bl b=>some (.bool b)
 | .int i=>some (.int i)
 | .str s=>some (.str s)
 | .tup ds=>(Dt.Pb ds).map .tuple
 | .ptp ds=>(Dt.Pb ds).map .tuple
 | .lst ds=>(Dt.Pb ds).map .list
 | _=>none
def Dt.Pb:List Dt→Option (List PyData)
 | []=>some []
 | d :: ds=>(Dt.py d).bind fun p=>(Dt.Pb ds).map fun q=>p :: q
end
mutual
theorem Rep.dp{K:KM}{H:Hp}{A:Ad}:∀ (d:Dt) (v:V) (p:PyData),d.py=some p→Rep K H A d v→Dp K.K H v p
 | .non,v,p,e,r=>by
  have e':v=.non:=r
  subst e'
  unfold Dt.py at e
  cases e
  exact .non
 | .bl b,v,p,e,r=>by
  have e':v=.bl b:=r
  subst e'
  unfold Dt.py at e
  cases e
  exact .bl b
 | .int b,v,p,e,r=>by
  have e':v=.int b:=r
  subst e'
  unfold Dt.py at e
  cases e
  exact .int b
 | .str b,v,p,e,r=>by
  have e':v=.str b:=r
  subst e'
  unfold Dt.py at e
  cases e
  exact .str b
 | .ty _,_,_,e,_=>by simp [Dt.py] at e
 | .cls _,_,_,e,_=>by simp [Dt.py] at e
 | .ad _,_,_,e,_=>by simp [Dt.py] at e
 | .dit _ _,_,_,e,_=>by simp [Dt.py] at e
 | .fls _,_,_,e,_=>by simp [Dt.py] at e
 | .dic _ _,_,_,e,_=>by simp [Dt.py] at e
 | .obj _ _ _,_,_,e,_=>by simp [Dt.py] at e
 | .exn _ _ _ _ _,_,_,e,_=>by simp [Dt.py] at e
 | .tup ds,v,p,e,r=>by
  unfold Dt.py at e
  cases ep:Dt.Pb ds with
  | none=>rw [ep] at e; cases e
  | some ps=>
   rw [ep] at e
   cases e
   unfold Rep at r
   obtain ⟨a,vs,rfl,h,hr⟩:=r
   exact .tup (SqT.Zy h) (Ah.dN ds vs ps ep hr)
 | .ptp ds,v,p,e,r=>by
  unfold Dt.py at e
  cases ep:Dt.Pb ds with
  | none=>rw [ep] at e; cases e
  | some ps=>
   rw [ep] at e
   cases e
   unfold Rep at r
   obtain ⟨a,vs,rfl,⟨_,o,h,_⟩,hr⟩:=r
   exact .tup (.inl (.inr ⟨o,h⟩)) (Ah.dN ds vs ps ep hr)
 | .lst ds,v,p,e,r=>by
  unfold Dt.py at e
  cases ep:Dt.Pb ds with
  | none=>rw [ep] at e; cases e
  | some ps=>
   rw [ep] at e
   cases e
   unfold Rep at r
   obtain ⟨a,vs,rfl,_,h,hr⟩:=r
   exact .lst (SqL.of h) (Ah.dN ds vs ps ep hr)
theorem Ah.dN{K:KM}{H:Hp}{A:Ad}:∀ (ds:List Dt) (vs:List V) (ps:List PyData),Dt.Pb ds=some ps→Ah K H A ds vs→DpAll K.K H vs ps
 | [],vs,ps,e,r=>by
  unfold Dt.Pb at e
  unfold Ah at r
  cases e
  subst r
  exact .nil
 | d :: ds,vs,ps,e,r=>by
  unfold Dt.Pb at e
  unfold Ah at r
  obtain ⟨v,t,rfl,h1,h2⟩:=r
  cases e1:Dt.py d with
  | none=>rw [e1] at e; cases e
  | some p=>
   cases e2:Dt.Pb ds with
   | none=>rw [e1,e2] at e; cases e
   | some qs=>
    rw [e1,e2] at e
    cases e
    exact .cons (Rep.dp d v p e1 h1) (Ah.dN ds t qs e2 h2)
end
def iY:Dt→Dt→Option Bool
 | .int i,.int j=>some (i == j)
 | .str i,.str j=>some (i == j)
 | .bl i,.bl j=>some (i == j)
 | .non,.non=>some true
 | _,_=>none
def Wu(a b:Dt):Option Bool:=a.py.bind fun p=>b.py.bind fun q=>if SeqAt.shaped p=true∧SeqAt.shaped q=true then some (PyData.eqv p q) else none
def Lz(a b:Dt):Option Bool:=(iY a b).orElse fun _=>Wu a b
@[simp] theorem Mn(i j:Int):Lz (.int i) (.int j)=some (i == j):=rfl
@[simp] theorem Mq(i j:Str):Lz (.str i) (.str j)=some (i == j):=rfl
@[simp] theorem Pt(i j:Bool):Lz (.bl i) (.bl j)=some (i == j):=rfl
section
variable {K:PySem.W.Frag}
theorem fA:OQ K rEq iY:=by
 intro μ H A a b d x y Q ra rb e q
 cases a <;> cases b <;> try (cases e; done)
 ·have e1:x=.non:=ra
  have e2:y=.non:=rb
  subst e1 e2
  cases e
  exact ⟨rfl,q⟩
 ·rename_i i j
  have e1:x=.bl i:=ra
  have e2:y=.bl j:=rb
  subst e1 e2
  cases e
  exact ⟨rfl,by rw [dec_bl]; exact q⟩
 ·rename_i i j
  have e1:x=.int i:=ra
  have e2:y=.int j:=rb
  subst e1 e2
  cases e
  exact ⟨rfl,by rw [dec_int]; exact q⟩
 ·rename_i i j
  have e1:x=.str i:=ra
  have e2:y=.str j:=rb
  subst e1 e2
  cases e
  exact ⟨rfl,by rw [dec_str]; exact q⟩
theorem X5{a b:Dt}{d:Bool}(h:Wu a b=some d):∃ p q,a.py=some p∧b.py=some q∧SeqAt.shaped p=true∧SeqAt.shaped q=true∧d=PyData.eqv p q:=by
 unfold Wu at h
 cases e1:a.py with
 | none=>rw [e1] at h; cases h
 | some p=>
  cases e2:b.py with
  | none=>rw [e1,e2] at h; cases h
  | some q=>
   rw [e1,e2] at h
   obtain ⟨⟨h1,h2⟩,h3⟩:=Bq h
   exact ⟨p,q,rfl,rfl,h1,h2,h3.symm⟩
theorem cx:OQ K (rEqD K) Wu:=by
 intro μ H A a b d x y Q ra rb e q
 obtain ⟨p,p',h1,h2,h3,h4,rfl⟩:=X5 e
 exact ⟨p,p',Rep.dp a x p h1 ra,Rep.dp b y p' h2 rb,h3,h4,q⟩
def Dq(g:Dt→Dt→Option Bool):Dt→Dt→Option Bool:=fun a b=>(g a b).map fun x=>!x
@[simp] theorem K0(g:Dt→Dt→Option Bool)(a b:Dt):Dq g a b=(g a b).map fun x=>!x:=rfl
theorem ck:OQ K rNe (Dq iY):=by
 intro μ H A a b d x y Q ra rb e q
 cases a <;> cases b <;> try (cases e; done)
 ·have e1:x=.non:=ra
  have e2:y=.non:=rb
  subst e1 e2
  cases e
  exact ⟨rfl,q⟩
 ·rename_i i j
  have e1:x=.bl i:=ra
  have e2:y=.bl j:=rb
  subst e1 e2
  cases e
  exact ⟨rfl,by rw [dec_bl]; exact q⟩
 ·rename_i i j
  have e1:x=.int i:=ra
  have e2:y=.int j:=rb
  subst e1 e2
  cases e
  exact ⟨rfl,by rw [dec_int]; exact q⟩
 ·rename_i i j
  have e1:x=.str i:=ra
  have e2:y=.str j:=rb
  subst e1 e2
  cases e
  exact ⟨rfl,by rw [dec_str]; exact q⟩
theorem eY:OQ K (rNeD K) (Dq Wu):=by
 intro μ H A a b d x y Q ra rb e q
 cases e1:Wu a b with
 | none=>simp [Dq,e1] at e
 | some d'=>
  simp only [Dq,e1,Option.map_some,Option.some.injEq] at e
  subst e
  obtain ⟨p,p',h1,h2,h3,h4,rfl⟩:=X5 e1
  exact ⟨p,p',Rep.dp a x p h1 ra,Rep.dp b y p' h2 rb,h3,h4,q⟩
def isN:Dt→Dt→Option Bool
 | .non,.non=>some true
 | _,.non=>some false
 | _,_=>none
theorem dX:OQ K (fun x y H Q=>y=.non∧Q (.bl (decide (x=.non))) H) isN:=by
 intro μ H A a b d x y Q ra rb e q
 cases b <;> try (cases a <;> cases e; done)
 have e2:y=.non:=rb
 refine ⟨e2,?_⟩
 have hd:decide (x=V.non)=d:=by
  cases a with
  | non=>cases e; have e1:x=.non:=ra; subst e1; rfl
  | bl i=>cases e; have e1:x=.bl i:=ra; subst e1; rfl
  | int i=>cases e; have e1:x=.int i:=ra; subst e1; rfl
  | str i=>cases e; have e1:x=.str i:=ra; subst e1; rfl
  | ty i=>cases e; have e1:x=.ty i:=ra; subst e1; rfl
  | cls i=>cases e; have e1:x=.ref i:=ra; subst e1; rfl
  | ad k=>cases e; unfold Rep at ra; obtain ⟨a,_,rfl⟩:=ra; rfl
  | dit ks ds=>cases e; unfold Rep at ra; obtain ⟨a,vs,rfl,_⟩:=ra; rfl
  | tup ds=>cases e; unfold Rep at ra; obtain ⟨a,vs,rfl,_⟩:=ra; rfl
  | ptp ds=>cases e; unfold Rep at ra; obtain ⟨a,vs,rfl,_⟩:=ra; rfl
  | ntp ds=>cases e; unfold Rep at ra; obtain ⟨a,vs,rfl,_⟩:=ra; rfl
  | lst ds=>cases e; unfold Rep at ra; obtain ⟨a,vs,rfl,_⟩:=ra; rfl
  | fls ds=>cases e; unfold Rep at ra; obtain ⟨a,vs,rfl,_⟩:=ra; rfl
  | dic ks ds=>cases e; unfold Rep at ra; obtain ⟨a,vs,rfl,_⟩:=ra; rfl
  | obj C ns ds=>cases e; unfold Rep at ra; obtain ⟨a,dx,fs,rfl,_⟩:=ra; rfl
  | exn a od C ns ds=>cases e; unfold Rep at ra; obtain ⟨fs,rfl,_⟩:=ra; rfl
 rw [hd]
 exact q
end
section
variable {X:Cx} {pos:Pos} {a b c e:Expr} {W:WX} {fa fb fc:Env→Out Dt} {la lb lc:List Nat} {rest:List Expr} {ft fu:Env→Out Bool}
theorem jS{op:CmpOp}{r:R2}{g:Dt→Dt→Option Bool}(ho:OpR X (compareOp op) r)(hg:OQ X.K r g)(ha:Bv X W a fa la)(hb:Bv X W b fb lb)(hm:behindInMarks op b=false):VP X W (.Compare a [op] [b] pos) (t2 fa fb g) []:=by
 obtain ⟨ta,pa,da⟩:=ha
 obtain ⟨tb,pb,db⟩:=hb
 exact ⟨_,pt_cmpR ho pa pb hm,ki hg da db⟩
theorem jP{op:CmpOp}{r:R2}{g:Dt→Dt→Option Bool}(ho:OpR X (compareOp op) r)(hg:OQ X.K r g)(ha:Bv X W a fa la)(hb:Bv X W b fb lb)(hm:behindInMarks op b=false):Bv X W (.Compare a [op] [b] pos) (eT (t2 fa fb g)) []:=by
 obtain ⟨ta,pa,da⟩:=ha
 obtain ⟨tb,pb,db⟩:=hb
 exact ⟨_,pe_cmpR ho pa pb hm,eD hg da db⟩
structure Cmp (X:Cx) (op:CmpOp) (g:Dt→Dt→Option Bool):Prop where
 ex:∃ r,OpR X (compareOp op) r∧OQ X.K r g
theorem gS:Cmp X .Lt (cI fun i j=>decide (i < j)):=⟨_,op_lt,We⟩
theorem N5:Cmp X .Gt (cI fun i j=>decide (j < i)):=⟨_,op_gt,We⟩
theorem jQ:Cmp X .GtE (cI fun i j=>decide (j≤i)):=⟨_,op_ge,We⟩
theorem IS(hu:X.A.units + 64 < cLine):Cmp X .Eq Lz:=⟨_,op_eq.or (op_eqD hu),OQ.or fA cx⟩
def Q4(a b:Dt):Option Bool:=(Dq iY a b).orElse fun _=>Dq Wu a b
theorem jg(a b:Dt):Q4 a b=Dq Lz a b:=by
 show ((iY a b).map (fun x=>!x)).orElse (fun _=>(Wu a b).map fun x=>!x)=((iY a b).orElse fun _=>Wu a b).map fun x=>!x
 cases iY a b <;> rfl
theorem R8(hu:X.A.units + 64 < cLine):Cmp X .NotEq Q4:=⟨_,op_ne.or (op_neD hu),OQ.or ck eY⟩
theorem iH:Cmp X .Is isN:=⟨_,op_isN,dX⟩
theorem F9{op:CmpOp}{g:Dt→Dt→Option Bool}(h:Cmp X op g)(ha:Bv X W a fa la)(hb:Bv X W b fb lb)(hm:behindInMarks op b=false:=by first | exact nomark _ | rfl):VP X W (.Compare a [op] [b] pos) (t2 fa fb g) []:=by
 obtain ⟨r,h1,h2⟩:=h.ex
 exact jS h1 h2 ha hb hm
theorem YV{op:CmpOp}{g:Dt→Dt→Option Bool}(h:Cmp X op g)(ha:Bv X W a fa la)(hb:Bv X W b fb lb)(hm:behindInMarks op b=false:=by first | exact nomark _ | rfl):Bv X W (.Compare a [op] [b] pos) (eT (t2 fa fb g)) []:=by
 obtain ⟨r,h1,h2⟩:=h.ex
 exact jP h1 h2 ha hb hm
theorem VG(ha:VP X W a ft la):iQ X W (.BoolOp .And [a] pos) ft la:=by
 obtain ⟨ta,pa,da⟩:=ha
 exact ⟨_,pw_and1 pa,da⟩
theorem CF(ha:VP X W a ft la):iQ X W (.BoolOp .Or [a] pos) ft la:=by
 obtain ⟨ta,pa,da⟩:=ha
 exact ⟨_,pw_or1 pa,da⟩
theorem Xi(ha:VP X W a ft la)(hb:iQ X W (.BoolOp .And (b :: rest) pos) fu lb):iQ X W (.BoolOp .And (a :: b :: rest) pos) (IX ft fu) []:=by
 obtain ⟨ta,pa,da⟩:=ha
 obtain ⟨tb,pb,db⟩:=hb
 exact ⟨_,pw_and pa pb,cf da db⟩
theorem Di(ha:VP X W a ft la)(hb:iQ X W (.BoolOp .Or (b :: rest) pos) fu lb):iQ X W (.BoolOp .Or (a :: b :: rest) pos) (Cb ft fu) []:=by
 obtain ⟨ta,pa,da⟩:=ha
 obtain ⟨tb,pb,db⟩:=hb
 exact ⟨_,pw_or pa pb,iT da db⟩
theorem Q5(ha:iQ X W e ft la):VP X W e ft la:=by
 obtain ⟨ta,pa,da⟩:=ha
 exact ⟨_,pa.pt,da⟩
theorem Ba(ha:VP X W a ft la):VP X W (.UnaryOp .Not a pos) (AM ft) []:=by
 obtain ⟨ta,pa,da⟩:=ha
 exact ⟨_,pt_not pa,eE da⟩
def gV:Dt→Option Bool
 | .bl b=>some b
 | _=>none
@[simp] theorem Qg(b:Bool):gV (.bl b)=some b:=rfl
def OJ(f g:Env→Out Dt):Env→Out Dt:=fun ρ=>(f ρ).bind fun a=>(GI (gV a)).bind fun b=>if b=true then g ρ else .ok (.bl false)
def hZ(f:Env→Out Dt):Env→Out Dt:=fun ρ=>(f ρ).bind fun a=>(GI (gV a)).bind fun b=>.ok (.bl (!b))
theorem fP{a:Dt}{b:Bool}(h:gV a=some b):a=.bl b:=by
 cases a <;> try (cases h; done)
 cases h
 rfl
theorem N3{op:BoolOp}(ha:Bv X W a fa la):Bv X W (.BoolOp op [a] pos) fa la:=by
 obtain ⟨ta,pa,da⟩:=ha
 exact ⟨_,pe_one pa,da⟩
theorem aX{K:PySem.W.Frag}{H:Hp}{σ:L2.St}{a:Dt}{k:Bool→Out Dt}{R:Dt→Prop}(h:DY K W H σ ((GI (gV a)).bind k) R):∃ b,a=.bl b∧DY K W H σ (k b) R:=by
 cases e:gV a with
 | none=>rw [e] at h; exact False.elim h
 | some b=>rw [e] at h; exact ⟨b,fP e,h⟩
theorem LM(ha:Bv X W a fa la)(hb:Bv X W (.BoolOp .And (b :: rest) pos) fb lb):Bv X W (.BoolOp .And (a :: b :: rest) pos) (OJ fa fb) lb:=by
 obtain ⟨ta,pa,da⟩:=ha
 obtain ⟨tb,pb,db⟩:=hb
 refine ⟨_,pe_and pa pb,?_⟩
 intro μ H0 A0 ρ σ H Q s h
 refine da _ _ _ _ _ _ _ s (h.seq fun a _ h1 v1 H1 s1 r1=>?_)
 obtain ⟨b,rfl,h2⟩:=aX h1
 refine ⟨b,r1,?_⟩
 cases b with
 | true=>exact db _ _ _ _ _ _ _ (s.grow s1) ((h2.grow s1).imp fun d _ q=>RE.grow s1 q)
 | false=>exact h2 _ H1 s1 rfl
theorem jA(ha:Bv X W a fa la):Bv X W (.UnaryOp .Not a pos) (hZ fa) []:=by
 obtain ⟨ta,pa,da⟩:=ha
 refine ⟨_,pe_not pa,?_⟩
 intro μ H0 A0 ρ σ H Q s h
 refine da _ _ _ _ _ _ _ s (h.seq fun a _ h1 v1 H1 s1 r1=>?_)
 obtain ⟨b,rfl,h2⟩:=aX h1
 exact ⟨b,r1,h2 _ H1 s1 rfl⟩
def AR:Dt→Option Bool
 | .non=>some false
 | .bl b=>some b
 | .int i=>some (i != 0)
 | .str s=>if s.length≤16777216 then some ((s.length:Int) != 0) else none
 | .tup ds=>some (!ds.isEmpty)
 | .ptp ds=>some (!ds.isEmpty)
 | .lst ds=>some (!ds.isEmpty)
 | .fls ds=>some (!ds.isEmpty)
 | _=>none
@[simp] theorem LV(b:Bool):AR (.bl b)=some b:=rfl
theorem Ij{α β:Type}{xs:List α}{ys:List β}(h:xs.length=ys.length):xs.isEmpty=ys.isEmpty:=by
 cases xs <;> cases ys <;> first | rfl | (simp at h)
theorem Yc{K:KM}{H:Hp}{A:Ad}{d:Dt}{v:V}{k:Bool}(r:Rep K H A d v)(h:AR d=some k):TruV K.K v H k:=by
 cases d with
 | non=>have e:v=.non:=r; subst e; cases h; rfl
 | bl b=>have e:v=.bl b:=r; subst e; cases h; rfl
 | int i=>have e:v=.int i:=r; subst e; cases h; rfl
 | str s=>
  have e:v=.str s:=r
  subst e
  obtain ⟨h1,rfl⟩:=Bq h
  exact ⟨by rw [sizeLine_eq]; exact h1,rfl⟩
 | ty _=>cases h
 | cls _=>cases h
 | ad _=>cases h
 | dit _ _=>cases h
 | obj _ _ _=>cases h
 | exn _ _ _ _ _=>cases h
 | tup ds=>
  unfold Rep at r
  obtain ⟨a,vs,rfl,h1,h2⟩:=r
  cases h
  exact .inr (.inl ⟨vs,SqT.Zy h1,by rw [Ij h2.length]⟩)
 | ntp ds=>cases h
 | ptp ds=>
  unfold Rep at r
  obtain ⟨a,vs,rfl,⟨_,o,h1,_⟩,h2⟩:=r
  cases h
  exact .inr (.inl ⟨vs,.inl (.inr ⟨o,h1⟩),by rw [Ij h2.length]⟩)
 | lst ds=>
  unfold Rep at r
  obtain ⟨a,vs,rfl,_,h1,h2⟩:=r
  cases h
  exact .inl ⟨vs,SqL.of h1,by rw [Ij h2.length]⟩
 | fls ds=>
  unfold Rep at r
  obtain ⟨a,vs,rfl,h1,h2⟩:=r
  cases h
  refine .inl ⟨vs,?_,by rw [Ij h2.length]⟩
  rcases h1 with ⟨_,o,h1⟩ | h1
  ·exact .inl (.inr ⟨o,h1⟩)
  ·exact .inr h1
 | dic ks ds=>cases h
theorem Ga(ha:Bv X W a fa la)(he:∀ whole,isTrue a X.env whole=(do let v ← whole; standAt a.pos; holding [v] (truthy v)):=by intro _; rfl):VP X W a (t1 fa AR) []:=by
 obtain ⟨ta,pa,da⟩:=ha
 refine ⟨_,pt_truth pa he,?_⟩
 intro μ H0 A0 ρ σ H Q s h
 refine da _ _ _ _ _ _ _ s (h.seq fun a _ h1 v1 H1 s1 r1=>?_)
 obtain ⟨k,e,q⟩:=B6 h1
 exact ⟨k,Yc r1 e,q H1 s1⟩
variable {es:List Expr} {fs:Env→Out (List Dt)} {ls:List Nat}
theorem Af:JN X W [] Ag []:=⟨_,pa_nil,XZ⟩
theorem Ae(ha:Bv X W e fa la)(hr:JN X W es fs lb)(hs:starEach (e :: es) X.env=(false,eval e X.env) :: starEach es X.env:=by rfl):JN X W (e :: es) (Ab fa fs) (la ++ lb):=by
 obtain ⟨ta,pa,da⟩:=ha
 obtain ⟨tr,pr,dr⟩:=hr
 exact ⟨_,pa_cons pa pr hs,aA da dr⟩
theorem F5{k}(h:JN X W es fs ls):Bv X W (.Tuple es k pos) (GZ fs) ls:=by
 obtain ⟨ta,pa,da⟩:=h
 exact ⟨_,pe_tup pa,dZ da⟩
theorem FN(h:JN X W es fs ls):ZC X W (.List es pos) (Fx fs) ls:=by
 obtain ⟨ta,pa,da⟩:=h
 exact ⟨_,pe_lst pa,cg da⟩
theorem CH(h:ZC X W e fs ls):Bv X W e (eL fs) ls:=by
 obtain ⟨ta,pa,da⟩:=h
 exact ⟨_,pa,kg da⟩
end
end FD
namespace FD
open PySem L2
inductive Fl where
 | nx | bk | ct | rt (d:Dt)
inductive SOut where
 | ok (f:Fl) (ρ:Env) | exc (x:Exn) (ρ:Env) | bad
def IL{α:Type}(o:Out α)(ρ:Env)(k:α→SOut):SOut:=match o with
 | .ok a=>k a
 | .exc x=>.exc x ρ
 | .bad=>.bad
@[simp] theorem Fb{α:Type}(a:α)(ρ:Env)(k:α→SOut):IL (.ok a) ρ k=k a:=rfl
def A9(K:PySem.W.Frag)(W:WX)(μ0:Mu)(H0:Hp)(A0:Ad)(o:SOut)(D:Ends):Prop:=match o with
 | .ok .nx ρ=>∀ μ σ H,Xt μ0 μ→StOk ⟨K,μ⟩ H0 A0 H ρ σ→D.nx σ H
 | .ok .bk ρ=>∀ μ σ H,Xt μ0 μ→StOk ⟨K,μ⟩ H0 A0 H ρ σ→D.bk σ H
 | .ok .ct ρ=>∀ μ σ H,Xt μ0 μ→StOk ⟨K,μ⟩ H0 A0 H ρ σ→D.ct σ H
 | .ok (.rt d) ρ=>∀ μ v σ H,Xt μ0 μ→StOk ⟨K,μ⟩ H0 A0 H ρ σ→Rep ⟨K,μ⟩ H (Av ⟨K,μ⟩ A0 ρ σ []) d v→D.rt v H
 | .exc x ρ=>∀ μ σ H c od,Xt μ0 μ→StOk ⟨K,μ⟩ H0 A0 H ρ σ→Qu K H x c od→W c od σ H
 | .bad=>False
def Jc(K:PySem.W.Frag)(W:WX)(ts:TS)(g:Env→SOut):Prop:=
 ∀ (μ:Mu) (H0:Hp) (A0:Ad) (ρ:Env) (σ:L2.St) (H:Hp) (D:Ends),StOk ⟨K,μ⟩ H0 A0 H ρ σ→A9 K W μ H0 A0 (g ρ) D→ts D σ H
def Nq(X:Cx)(W:WX)(st:Stmt)(g:Env→SOut):Prop:=∃ ts,PS X st ts∧Jc X.K W ts g
def JM(X:Cx)(W:WX)(st:List Stmt)(g:Env→SOut):Prop:=∃ ts,PSs X st ts∧Jc X.K W ts g
def Ar:Env→SOut:=fun ρ=>.ok .nx ρ
def SOut.andThen(o:SOut)(g:Env→SOut):SOut:=match o with
 | .ok .nx ρ=>g ρ
 | o=>o
@[simp] theorem Gx(ρ:Env)(g:Env→SOut):(SOut.ok .nx ρ).andThen g=g ρ:=rfl
@[simp] theorem HV(d:Dt)(ρ:Env)(g:Env→SOut):(SOut.ok (.rt d) ρ).andThen g=.ok (.rt d) ρ:=rfl
def Ao(f g:Env→SOut):Env→SOut:=fun ρ=>(f ρ).andThen g
def B2(i:Nat)(f:Env→Out Dt)(lk:List Nat):Env→SOut:=fun ρ=>IL (f ρ) ρ fun d=>.ok .nx ((AQ d lk ρ).set i (some (.sh d)))
def Hh(i:Nat)(f:Env→Out (List Dt))(lk:List Nat):Env→SOut:=fun ρ=>IL (f ρ) ρ fun ds=>.ok .nx ((U8 ds lk ρ).set i (some (.ol ds)))
def JK(f:Env→Out Dt):Env→SOut:=fun ρ=>IL (f ρ) ρ fun _=>.ok .nx ρ
def AE(f:Env→Out Dt)(lk:List Nat):Env→SOut:=fun ρ=>IL (f ρ) ρ fun d=>.ok (.rt d) (AQ d lk ρ)
def BR(c:Env→Out Bool)(f g:Env→SOut):Env→SOut:=fun ρ=>IL (c ρ) ρ fun b=>if b=true then f ρ else g ρ
def Du(i:Nat)(f:Env→Out Dt)(lk:List Nat):Env→SOut:=fun ρ=>match ρ[i]? with
 | some (some (.ol _))=>IL (f ρ) ρ fun d=>(match (AQ d lk ρ)[i]? with
  | some (some (.ol ds))=>if ds.length < 16777216 then .ok .nx ((AQ d lk ρ).set i (some (.ol (ds ++ [d])))) else .bad
  | _=>.bad)
 | _=>.bad
section
variable {K:PySem.W.Frag} {κ:KM} {μ:Mu} {W:WX} {H0 H H1:Hp} {A0:Ad} {ρ:Env} {σ:L2.St} {lk la lb:List Nat} {α:Type}
theorem A9.ext{μ':Mu}{o:SOut}{D:Ends}(x:Xt μ μ')(h:A9 K W μ H0 A0 o D):A9 K W μ' H0 A0 o D:=by
 cases o with
 | ok f ρ=>
  cases f with
  | nx=>exact fun μ σ H y s=>h μ σ H (x.trans y) s
  | bk=>exact fun μ σ H y s=>h μ σ H (x.trans y) s
  | ct=>exact fun μ σ H y s=>h μ σ H (x.trans y) s
  | rt d=>exact fun μ v σ H y s r=>h μ v σ H (x.trans y) s r
 | exc z ρ=>exact fun μ σ H c od y s r=>h μ σ H c od (x.trans y) s r
 | bad=>exact h
theorem A9.st{o:Out α}{k:α→SOut}{D:Ends}{R:α→Prop}(s:StOk ⟨K,μ⟩ H0 A0 H ρ σ)(h:A9 K W μ H0 A0 (IL o ρ k) D)(hk:∀ a,o=.ok a→A9 K W μ H0 A0 (k a) D→R a):DY K W H σ o R:=by
 cases o with
 | ok a=>exact hk a rfl h
 | exc x=>exact fun c od H' s' r=>h μ σ H' c od (Xt.refl _) (s.grow s') r
 | bad=>exact h
theorem dc{t u:TS}{f g:Env→SOut}(ht:Jc K W t f)(hu:Jc K W u g):Jc K W (tSeq t u) (Ao f g):=by
 intro μ H0 A0 ρ σ H D s h
 refine ht _ _ _ _ _ _ { D with nx:=u D } s ?_
 unfold Ao at h
 cases e:f ρ with
 | ok fl ρ'=>
  rw [e] at h
  cases fl with
  | nx=>exact fun μ' σ' H' y s'=>hu _ _ _ _ _ _ _ s' (h.ext y)
  | bk=>exact h
  | ct=>exact h
  | rt d=>exact h
 | exc x ρ'=>rw [e] at h; exact h
 | bad=>rw [e] at h; exact h
theorem bD:Jc K W tNext Ar:=fun μ H0 A0 ρ σ H D s h=>h _ σ H (Xt.refl _) s
theorem eR{te:TE}{f:Env→Out Dt}{i:Nat}(ha:D3 K W te f la):Jc K W (tAsg te (gName i)) (B2 i f la):=by
 intro μ H0 A0 ρ σ H D s h
 exact ha _ _ _ _ _ _ _ s (A9.st s h fun d _ h1 v H1 s1 r1=>h1 _ _ _ (Xt.refl _) (s.give s1 r1))
theorem VL{te:TE}{f:Env→Out (List Dt)}{i:Nat}(ha:au K W te f la):Jc K W (tAsg te (gName i)) (Hh i f la):=by
 intro μ H0 A0 ρ σ H D s h
 exact ha _ _ _ _ _ _ _ s (A9.st s h fun d _ h1 p vs H1 s1 hp hp' r1=>h1 _ _ _ (Xt.refl _) (s.lS s1 hp hp' r1))
theorem ZZ{te:TE}{f:Env→Out Dt}(ha:D3 K W te f la):Jc K W (tDrop te) (JK f):=by
 intro μ H0 A0 ρ σ H D s h
 exact ha _ _ _ _ _ _ _ s (A9.st s h fun d _ h1 v H1 s1 r1=>h1 _ _ _ (Xt.refl _) (s.grow s1))
theorem eG{te:TE}{f:Env→Out Dt}(ha:D3 K W te f la):Jc K W (tRet te) (AE f la):=by
 intro μ H0 A0 ρ σ H D s h
 exact ha _ _ _ _ _ _ _ s (A9.st s h fun d _ h1 v H1 s1 r1=>by
  obtain ⟨s2,r2⟩:=(s.grow s1).RH r1
  exact h1 _ _ _ _ (Xt.refl _) s2 r2)
theorem iw{tc:TT}{t u:TS}{c:Env→Out Bool}{f g:Env→SOut}(hc:TY K W tc c la)(ht:Jc K W t f)(hu:Jc K W u g):Jc K W (tIfS tc t u) (BR c f g):=by
 intro μ H0 A0 ρ σ H D s h
 refine hc _ _ _ _ _ _ _ s (A9.st s h fun b _ h1 H1 s1=>?_)
 cases b with
 | true=>exact ht _ _ _ _ _ _ _ (s.grow s1) h1
 | false=>exact hu _ _ _ _ _ _ _ (s.grow s1) h1
theorem fzD(s:StOk κ H0 A0 H ρ σ){d:Dt}{v:V}(hs:Same H H1)(r:Rep κ H1 (Av κ A0 ρ σ lk) d v):StOk κ H0 A0 H1 (AQ d lk ρ) σ∧Rep κ H1 (Av κ A0 (AQ d lk ρ) σ []) d v:=(s.grow hs).RH r
theorem WJ{te:TE}{f:Env→Out Dt}{i:Nat}(ha:D3 K W te f la):Jc K W (tDrop (tBM K "list" rAppend (tVar i) (tCons te tNil))) (Du i f la):=by
 intro μ H0 A0 ρ σ H D s h
 unfold Du at h
 split at h
 ·rename_i ds0 e0
  obtain ⟨a,vs,e1,h0,h1,r0⟩:=s.lo i _ e0
  refine ⟨_,e1,.inl ⟨rfl,vs,SqL.of h1⟩,?_⟩
  refine ha _ _ _ _ _ _ _ s (A9.st s h fun d _ h2 v H1 s1 r1=>?_)
  obtain ⟨s2,r2⟩:=fzD s s1 r1
  split at h2
  ·rename_i ds e2
   split at h2
   ·rename_i hl
    obtain ⟨a',vs',e3,h0',h1',r3⟩:=s2.lo i _ e2
    rw [e1] at e3
    cases e3
    refine ⟨a,vs',v,rfl,rfl,h1',by rw [r3.length,sizeLine_eq]; exact hl,?_⟩
    exact h2 _ _ _ (Xt.refl _) (s2.jv e2 e1 (Ah.append r3 (Ah.cons r2 Ah.nil)))
   ·exact False.elim h2
  ·exact False.elim h2
 ·exact False.elim h
def fM(S:List Nat)(ρ ρ':Env)(σ σ':L2.St):Prop:=σ'.length=σ.length∧∀ j,j∉S→σ'[j]? = σ[j]?∧ρ'[j]? = ρ[j]?
def Zq(K:PySem.W.Frag)(g:TG)(u:Dt→Env→Option Env)(S:List Nat):Prop:=
 ∀ (μ:Mu) (H0:Hp) (A0:Ad) (ρ ρ':Env) (σ:L2.St) (H:Hp) (d:Dt) (v:V) (Q:L2.St→Hp→Prop),StOk ⟨K,μ⟩ H0 A0 H ρ σ→Rep ⟨K,μ⟩ H (Av ⟨K,μ⟩ A0 ρ σ []) d v→u d ρ=some ρ' →
  (∀ σ',StOk ⟨K,μ⟩ H0 A0 H ρ' σ'→(∀ a,Av ⟨K,μ⟩ A0 ρ' σ' [] a→Av ⟨K,μ⟩ A0 ρ σ [] a)→fM S ρ ρ' σ σ'→Q σ' H)→g v σ H Q
def Wt(X:Cx)(tg:Expr)(u:Dt→Env→Option Env)(S:List Nat):Prop:=∃ g,PG X tg g∧Zq X.K g u S
def Ai(i:Nat):Dt→Env→Option Env:=fun d ρ=>some (ρ.set i (some (.sh d)))
theorem bT{i:Nat}:Zq K (gName i) (Ai i) [i]:=by
 intro μ H0 A0 ρ ρ' σ H d v Q s r e q
 cases e
 refine q _ (s.put r) (fun a z=>StOk.jV z) ⟨by rw [List.length_set],fun j hj=>?_⟩
 have ne:i≠j:=fun z=>hj (by rw [z]; exact List.mem_singleton.mpr rfl)
 exact ⟨List.getElem?_set_ne ne,List.getElem?_set_ne ne⟩
def Fc:List Dt→Env→Option Env:=fun ds ρ=>match ds with
 | []=>some ρ
 | _=>none
def AY(u:Dt→Env→Option Env)(us:List Dt→Env→Option Env):List Dt→Env→Option Env:=fun ds ρ=>match ds with
 | d :: ds=>(u d ρ).bind fun ρ'=>us ds ρ'
 | _=>none
def aO(K:PySem.W.Frag)(g:TGs)(us:List Dt→Env→Option Env)(S:List Nat):Prop:=
 ∀ (μ:Mu) (H0:Hp) (A0 A:Ad) (ρ ρ':Env) (σ:L2.St) (H:Hp) (ds:List Dt) (vs:List V) (Q:L2.St→Hp→Prop),StOk ⟨K,μ⟩ H0 A0 H ρ σ→(∀ a,Av ⟨K,μ⟩ A0 ρ σ [] a→A a)→Ah ⟨K,μ⟩ H A ds vs→us ds ρ=some ρ' →
  (∀ σ',StOk ⟨K,μ⟩ H0 A0 H ρ' σ'→(∀ a,Av ⟨K,μ⟩ A0 ρ' σ' [] a→Av ⟨K,μ⟩ A0 ρ σ [] a)→fM S ρ ρ' σ σ'→Q σ' H)→g vs σ H Q
def dy(X:Cx)(ts:List Expr)(us:List Dt→Env→Option Env)(S:List Nat):Prop:=∃ g,PGs X ts g∧aO X.K g us S
theorem aI:aO K gNil Fc []:=by
 intro μ H0 A0 A ρ ρ' σ H ds vs Q s ha r e q
 cases ds with
 | nil=>
  cases e
  unfold Ah at r
  exact ⟨r,q σ s (fun a z=>z) ⟨rfl,fun j _=>⟨rfl,rfl⟩⟩⟩
 | cons d ds=>cases e
theorem YF{g:TG}{gs:TGs}{u:Dt→Env→Option Env}{us:List Dt→Env→Option Env}{S T:List Nat}(h1:Zq K g u S)(h2:aO K gs us T):aO K (gCons g gs) (AY u us) (S ++ T):=by
 intro μ H0 A0 A ρ ρ' σ H ds vs Q s ha r e q
 cases ds with
 | nil=>cases e
 | cons d ds=>
  unfold Ah at r
  obtain ⟨v,t,rfl,r1,r2⟩:=r
  refine ⟨v,t,rfl,?_⟩
  have e':(u d ρ).bind (fun ρ'=>us ds ρ')=some ρ':=e
  cases e1:u d ρ with
  | none=>rw [e1] at e'; cases e'
  | some ρ1=>
   rw [e1] at e'
   refine h1 _ _ _ _ _ _ _ _ _ _ s (r1.BZ ha) e1 fun σ1 s1 m1 o1=>?_
   refine h2 _ _ _ A _ _ _ _ _ _ _ s1 (fun a z=>ha a (m1 a z)) r2 e' fun σ2 s2 m2 o2=>q σ2 s2 (fun a z=>m1 a (m2 a z)) ⟨o2.1.trans o1.1,fun j hj=>?_⟩
   obtain ⟨x1,y1⟩:=o1.2 j fun z=>hj (List.mem_append_left _ z)
   obtain ⟨x2,y2⟩:=o2.2 j fun z=>hj (List.mem_append_right _ z)
   exact ⟨x2.trans x1,y2.trans y1⟩
def FC(us:List Dt→Env→Option Env):Dt→Env→Option Env:=fun d ρ=>match d with
 | .tup ds=>us ds ρ
 | _=>none
theorem cq{gs:TGs}{us:List Dt→Env→Option Env}{n:Nat}{S:List Nat}(h:aO K gs us S)(hn:∀ ds ρ ρ',us ds ρ=some ρ'→ds.length=n):Zq K (gTup K n gs) (FC us) S:=by
 intro μ H0 A0 ρ ρ' σ H d v Q s r e q
 cases d <;> try (cases e; done)
 rename_i ds
 unfold Rep at r
 obtain ⟨a,vs,rfl,h1,r⟩:=r
 exact ⟨a,vs,rfl,SqT.Zy h1,by rw [r.length]; exact hn _ _ _ e,h _ _ _ _ _ _ _ _ _ _ _ s (fun a z=>z) r e q⟩
def aE(u:Dt→Env→Option Env)(f:Env→Out Dt)(lk:List Nat):Env→SOut:=fun ρ=>IL (f ρ) ρ fun d=>match u d (AQ d lk ρ) with
 | some ρ'=>.ok .nx ρ'
 | none=>.bad
theorem dE{te:TE}{f:Env→Out Dt}{g:TG}{u:Dt→Env→Option Env}{S:List Nat}(ha:D3 K W te f la)(hg:Zq K g u S):Jc K W (tAsg te g) (aE u f la):=by
 intro μ H0 A0 ρ σ H D s h
 unfold aE at h
 refine ha _ _ _ _ _ _ _ s (A9.st s h fun d _ h2 v H1 s1 r1=>?_)
 obtain ⟨s2,r2⟩:=fzD s s1 r1
 split at h2
 ·rename_i ρ' e
  exact hg _ _ _ _ _ _ _ _ _ _ s2 r2 e fun σ' s' _ _=>h2 _ σ' H1 (Xt.refl _) s'
 ·exact False.elim h2
end
end FD
namespace FD
open PySem L2
def Ow(κ:KM)(ρ:Env)(σ:L2.St)(lk:List Nat):Ad:=fun a=>∃ i,i∉lk∧Bw κ ρ σ i a
open Classical in
noncomputable def Bs(κ:KM)(H:Hp)(ρ:Env)(σ:L2.St)(lk:List Nat):Hp:=fun a=>if Ow κ ρ σ lk a then none else H a
section
variable {K:PySem.W.Frag} {κ:KM} {μ:Mu} {W:WX} {H0 H0' H H1:Hp} {A0:Ad} {ρ:Env} {σ:L2.St} {lk la lb:List Nat} {α:Type}
theorem I5{a:Addr}(h:¬ Ow κ ρ σ lk a):Bs κ H ρ σ lk a=H a:=by unfold Bs; rw [if_neg h]
theorem bb{a:Addr}(h:Ow κ ρ σ lk a):Bs κ H ρ σ lk a=none:=by unfold Bs; rw [if_pos h]
theorem Jn:Same (Bs κ H ρ σ lk) H:=fun a o e=>by
 unfold Bs at e
 split at e
 ·cases e
 ·exact e
theorem StOk.RX(s:StOk κ H0 A0 H ρ σ){a:Addr}(h:Ow κ ρ σ lk a):H0 a=none:=by
 obtain ⟨i,_,h⟩:=h
 exact (s.Ci h).2
theorem StOk.rebase(s:StOk κ H0 A0 H ρ σ)(hs:Same H H1)(lk:List Nat):StOk κ (Bs κ H1 ρ σ lk) A0 H1 (frz lk ρ) σ∧Same H0 (Bs κ H1 ρ σ lk):=by
 have s1:=s.grow hs
 obtain ⟨s2,h2⟩:=s1.fz lk
 have nA:∀ a,A0 a→¬ Ow κ ρ σ lk a:=fun a z q=>by
  have q1:=s.a0 a z
  rw [s.RX q] at q1
  exact q1
 have own:∀ i l a,(frz lk ρ)[i]? = some (some l)→Dw κ l σ[i]? a→H0 a=none→Bs κ H1 ρ σ lk a=none:=fun i l a e ho h0=>by
  have q:=h2 [] a (.inr ⟨i,(fun z=>nomatch z),l,e,ho⟩)
  rw [List.append_nil] at q
  rcases q with q | q
  ·have q1:=s.a0 a q
   rw [h0] at q1
   exact False.elim q1
  ·exact bb q
 refine ⟨⟨Jn,fun a z=>?_,s2.len,fun i l e=>FA.gen (F:=κ.K) (m:=κ.mu) (m':=κ.mu) (Xt.refl _) (fun _=>rfl) (fun _ _ _ q=>q) (fun _ z=>.inl z) (fun _ _ _ q=>q) (fun a ho h0=>own i l a e ho h0) (s2.lo i l e),s2.ap,s2.one,s2.nm⟩,fun a o e=>?_⟩
 ·rw [I5 (nA a z)]
  exact s1.Ec (lk:=[]) (.inl z)
 ·rw [I5 fun q=>by rw [s.RX q] at e; cases e]
  exact s1.same a o e
theorem StOk.weaken(h0:Same H0 H0')(ha:∀ a,A0 a→Mut (H0 a))(s:StOk κ H0' A0 H ρ σ):StOk κ H0 A0 H ρ σ:=
 ⟨h0.trans s.same,ha,s.len,fun i l e=>FA.gen (F:=κ.K) (m:=κ.mu) (m':=κ.mu) (Xt.refl _) (fun _=>rfl) (fun _ _ _ q=>q) (fun _ z=>.inl z) (fun _ _ _ q=>q) (fun a _ z=>h0.free z) (s.lo i l e),s.ap,s.one,s.nm⟩
theorem A9.weaken{o:SOut}{D:Ends}(h0:Same H0 H0')(ha:∀ a,A0 a→Mut (H0 a))(h:A9 K W μ H0 A0 o D):A9 K W μ H0' A0 o D:=by
 cases o with
 | ok f ρ=>
  cases f with
  | nx=>exact fun μ σ H y s=>h μ σ H y (s.weaken h0 ha)
  | bk=>exact fun μ σ H y s=>h μ σ H y (s.weaken h0 ha)
  | ct=>exact fun μ σ H y s=>h μ σ H y (s.weaken h0 ha)
  | rt d=>exact fun μ v σ H y s r=>h μ v σ H y (s.weaken h0 ha) r
 | exc x ρ=>exact fun μ σ H c od y s r=>h μ σ H c od y (s.weaken h0 ha) r
 | bad=>exact h
structure Walks (κ:KM) (B:Hp) (A0:Ad) (J:It) (ds:List Dt):Prop where
 go:∀ i H,Same B H→i < ds.length→J.go i H
 stop:∀ H,Same B H→J.stop ds.length H
 yld:∀ (i:Nat) (H:Hp) (x:V) (H':Hp) (d:Dt),Same B H→J.yld i H x H'→ds[i]? = some d→Same H H'∧∀ A:Ad,(∀ a,A a→(A0 a∨B a=none)∧H a≠none)→Rep κ H' A d x
def gH(K:PySem.W.Frag)(W:WX)(wi:TI)(f:Env→Out (List Dt))(lk:List Nat):Prop:=
 ∀ (μ:Mu) (H0:Hp) (A0:Ad) (ρ:Env) (σ:L2.St) (H:Hp) (R:It→Hp→Prop),StOk ⟨K,μ⟩ H0 A0 H ρ σ→DY K W H σ (f ρ) (fun ds=>∀ J H1,Same H H1→Walks ⟨K,μ⟩ (Bs ⟨K,μ⟩ H1 ρ σ lk) A0 J ds→R J H1)→wi σ H R
def iM(X:Cx)(W:WX)(tg iter:Expr)(f:Env→Out (List Dt))(lk:List Nat):Prop:=∃ wi,PI X tg iter wi∧gH X.K W wi f lk
def Bm(u:Dt→Env→Option Env)(b:Env→SOut):List Dt→Env→SOut
 | [],ρ=>.ok .nx ρ
 | d :: ds,ρ=>match u d ρ with
  | none=>.bad
  | some ρ1=>match b ρ1 with
   | .ok .nx ρ'=>Bm u b ds ρ'
   | .ok .ct ρ'=>Bm u b ds ρ'
   | .ok .bk ρ'=>.ok .nx ρ'
   | o=>o
theorem NK(u:Dt→Env→Option Env)(b:Env→SOut)(d:Dt)(ds:List Dt)(ρ:Env):Bm u b (d :: ds) ρ=match u d ρ with
  | none=>.bad
  | some ρ1=>match b ρ1 with
   | .ok .nx ρ'=>Bm u b ds ρ'
   | .ok .ct ρ'=>Bm u b ds ρ'
   | .ok .bk ρ'=>.ok .nx ρ'
   | o=>o:=rfl
def AW(u:Dt→Env→Option Env)(f:Env→Out (List Dt))(lk:List Nat)(b:Env→SOut):Env→SOut:=fun ρ=>IL (f ρ) ρ fun ds=>Bm u b ds (frz lk ρ)
theorem S4{wi:TI}{g:TG}{tb:TS}{u:Dt→Env→Option Env}{f:Env→Out (List Dt)}{b:Env→SOut}{S:List Nat}(hi:gH K W wi f lk)(hg:Zq K g u S)(hb:Jc K W tb b):Jc K W (tFor wi g tb) (AW u f lk b):=by
 intro μ H0 A0 ρ σ H D s h
 refine hi _ _ _ _ _ _ _ s (A9.st s h fun ds _ h1 J H1 s1 w=>?_)
 obtain ⟨sB,hB⟩:=s.rebase s1 lk
 have h2:=h1.weaken hB s.a0
 refine ⟨fun i m σ' H'=>m + i=ds.length∧∃ μ' ρ',Xt μ μ'∧StOk ⟨K,μ'⟩ (Bs ⟨K,μ⟩ H1 ρ σ lk) A0 H' ρ' σ'∧A9 K W μ' (Bs ⟨K,μ⟩ H1 ρ σ lk) A0 (Bm u b (ds.drop i) ρ') D,⟨ds.length,by omega,_,_,Xt.refl _,sB,h2⟩,?_⟩
 rintro i m σ2 H2 ⟨hm,μ2,ρ2,x2,s2,h3⟩
 by_cases hlt:i < ds.length
 ·have hd:ds.drop i=ds[i] :: ds.drop (i + 1):=List.drop_eq_getElem_cons hlt
  rw [hd,NK] at h3
  refine .inr ⟨w.go i H2 s2.same hlt,fun σ' H'=>∃ μ' ρ',Xt μ μ'∧StOk ⟨K,μ'⟩ (Bs ⟨K,μ⟩ H1 ρ σ lk) A0 H' ρ' σ'∧A9 K W μ' (Bs ⟨K,μ⟩ H1 ρ σ lk) A0 (Bm u b (ds.drop (i + 1)) ρ') D,fun σ' H' q=>⟨m - 1,by omega,by omega,q⟩,fun x H3 y=>?_⟩
  obtain ⟨s3,r3⟩:=w.yld i H2 x H3 ds[i] s2.same y (List.getElem?_eq_getElem hlt)
  have r4:Rep ⟨K,μ2⟩ H3 (Av ⟨K,μ2⟩ A0 ρ2 σ2 []) ds[i] x:=Rep.ext x2 <| r3 _ fun a z=>⟨z.elim .inl fun z=>.inr (s2.RX (lk:=[]) z),s2.LG z⟩
  split at h3
  ·exact False.elim h3
  ·rename_i ρ3 e3
   refine hg _ _ _ _ _ _ _ _ _ _ (s2.grow s3) r4 e3 fun σ4 s4 _ _=>?_
   refine hb _ _ _ _ _ _ _ s4 ?_
   cases e:b ρ3 with
   | ok fl ρ'=>
    rw [e] at h3
    cases fl with
    | nx=>exact fun μ' σ' H' y s'=>⟨μ',ρ',x2.trans y,s',h3.ext y⟩
    | ct=>exact fun μ' σ' H' y s'=>⟨μ',ρ',x2.trans y,s',h3.ext y⟩
    | bk=>exact fun μ' σ' H' y s'=>h3 μ' σ' H' y s'
    | rt d=>exact h3
   | exc x ρ'=>rw [e] at h3; exact h3
   | bad=>rw [e] at h3; exact h3
 ·have e:i=ds.length:=by omega
  subst e
  rw [List.drop_length] at h3
  exact .inl ⟨w.stop H2 s2.same,h3 _ σ2 H2 (Xt.refl _) s2⟩
def Dt.seq:Dt→Option (List Dt)
 | .tup ds=>some ds
 | .ptp ds=>some ds
 | .lst ds=>some ds
 | .fls ds=>some ds
 | .str s=>some (s.cps.toList.map fun c=>.str ⟨#[c]⟩)
 | _=>none
@[simp] theorem Dt.MI(ds:List Dt):(Dt.tup ds).seq=some ds:=rfl
@[simp] theorem Dt.Mc(ds:List Dt):(Dt.lst ds).seq=some ds:=rfl
def AD(f:Env→Out Dt):Env→Out (List Dt):=fun ρ=>(f ρ).bind fun d=>GI d.seq
def jk(K:PySem.W.Frag)(tl:TE):TI:=fun σ H R=>tl σ H fun x H1=>(∃ a,x=.ref a∧(∃ xs,SqL K H1 a xs)∧R (Itl K a) H1)∨(∃ a,x=.ref a∧(∃ xs,SqT K H1 a xs)∧R (Itt K a) H1)∨∃ z,x=.str z∧R (Its z) H1
theorem Rep.later{B:Hp}(hs:Same B H){d:Dt}{v:V}(r:Rep κ B A0 d v){A:Ad}(ha:∀ a,A a→A0 a∨B a=none):Rep κ H A d v:=by
 refine Rep.mono (H:=B) (A:=fun a=>A a∨A0 a) (fun a o _ e=>hs a o e) (fun a z=>.inl z) d v ?_
 -- all addresses that r uses stand in B
 refine Rep.BZ (A:=fun a=>A0 a∨B a=none) (fun a z=>z.elim (fun z=>ha a z) .inl) ?_
 exact Rep.Ge _ _ r
theorem Rep.kE{d:Dt}{v:V}(r:Rep κ H (Av κ A0 ρ σ lk) d v):Rep κ (Bs κ H ρ σ lk) A0 d v:=
 Rep.mono (fun a o n e=>by rw [I5 fun q=>n (.inr q)]; exact e) (fun a z=>.inl z) d v r
theorem K7{a:Addr}{vs:List V}{ds:List Dt}{B:Hp}(hl:∀ H',Same B H'→SqL K H' a vs)(r:Ah κ B A0 ds vs):Walks κ B A0 (Itl K a) ds where
 go:=fun i H hs hi=>⟨vs,vs[i]'(by rw [r.length]; exact hi),hl H hs,List.getElem?_eq_getElem _⟩
 stop:=fun H hs=>⟨vs,hl H hs,by rw [r.length]; exact Nat.le_refl _⟩
 yld:=fun i H x H' d hs y e=>by
  obtain ⟨rfl,y⟩:=y
  have q:=y vs (hl _ hs)
  obtain ⟨v,e1,r1⟩:=r.get e
  rw [q] at e1
  cases e1
  exact ⟨Same.refl _,fun A ha=>Rep.later hs r1 fun a z=>(ha a z).1⟩
theorem KQ{a:Addr}{vs:List V}{ds:List Dt}{B:Hp}(hl:∀ H',Same B H'→SqT K H' a vs)(r:Ah κ B A0 ds vs):Walks κ B A0 (Itt K a) ds where
 go:=fun i H hs hi=>⟨vs,vs[i]'(by rw [r.length]; exact hi),hl H hs,List.getElem?_eq_getElem _⟩
 stop:=fun H hs=>⟨vs,hl H hs,by rw [r.length]; exact Nat.le_refl _⟩
 yld:=fun i H x H' d hs y e=>by
  obtain ⟨rfl,y⟩:=y
  have q:=y vs (hl _ hs)
  obtain ⟨v,e1,r1⟩:=r.get e
  rw [q] at e1
  cases e1
  exact ⟨Same.refl _,fun A ha=>Rep.later hs r1 fun a z=>(ha a z).1⟩
theorem Ah.kE{ds:List Dt}{vs:List V}(r:Ah κ H (Av κ A0 ρ σ lk) ds vs):Ah κ (Bs κ H ρ σ lk) A0 ds vs:=
 Ah.mono (fun a o n e=>by rw [I5 fun q=>n (.inr q)]; exact e) (fun a z=>.inl z) ds vs r
theorem cC{tl:TE}{f:Env→Out Dt}(ha:D3 K W tl f lk):gH K W (jk K tl) (AD f) lk:=by
 intro μ H0 A0 ρ σ H R s h
 unfold AD at h
 refine ha _ _ _ _ _ _ _ s (h.seq fun d _ h1 v H1 s1 r1=>?_)
 obtain ⟨ds,e,q⟩:=B6 h1
 cases d <;> try (cases e; done)
 ·rename_i z _
  cases e
  have e1:v=.str z:=r1
  subst e1
  refine .inr (.inr ⟨z,rfl,q _ _ s1 ⟨fun i H' _ hi=>?_,fun H' _=>?_,fun i H' x H'' d hs y e=>?_⟩⟩)
  ·simpa [Its] using hi
  ·simp [Its]
  ·obtain ⟨rfl,c,e1,rfl⟩:=y
   refine ⟨Same.refl _,fun A _=>?_⟩
   rw [List.getElem?_map] at e
   have e2:z.cps.toList[i]? = some c:=by simpa using e1
   rw [e2] at e
   cases e
   rfl
 ·rename_i es _
  cases e
  unfold Rep at r1
  obtain ⟨a,vs,rfl,h1',r⟩:=r1
  have hl:∀ H',Same (Bs ⟨K,μ⟩ H1 ρ σ lk) H'→SqT K H' a vs:=fun H' hs=>by
   rcases h1' with ⟨n,e⟩ | h
   ·exact SqT.of (hs _ _ (by rw [I5 fun q=>n (.inr q)]; exact e))
   ·exact .inr h
  exact .inr (.inl ⟨a,rfl,⟨vs,SqT.Zy h1'⟩,q _ _ s1 (KQ hl r.kE)⟩)
 ·rename_i es _
  cases e
  unfold Rep at r1
  obtain ⟨a,vs,rfl,⟨n,o,e,_⟩,r⟩:=r1
  have hl:∀ H',Same (Bs ⟨K,μ⟩ H1 ρ σ lk) H'→SqT K H' a vs:=fun H' hs=>.inl (.inr ⟨o,hs _ _ (by rw [I5 fun q=>n (.inr q)]; exact e)⟩)
  exact .inr (.inl ⟨a,rfl,⟨vs,.inl (.inr ⟨o,e⟩)⟩,q _ _ s1 (KQ hl r.kE)⟩)
 ·rename_i es _
  cases e
  unfold Rep at r1
  obtain ⟨a,vs,rfl,n,e,r⟩:=r1
  have hB:Bs ⟨K,μ⟩ H1 ρ σ lk a=some (.lst vs):=by rw [I5 fun q=>n (.inr q)]; exact e
  exact .inl ⟨a,rfl,⟨vs,SqL.of e⟩,q _ _ s1 (K7 (fun H' hs=>SqL.of (hs _ _ hB)) r.kE)⟩
 ·rename_i es _
  cases e
  unfold Rep at r1
  obtain ⟨a,vs,rfl,h1',r⟩:=r1
  have hl:∀ H',Same (Bs ⟨K,μ⟩ H1 ρ σ lk) H'→SqL K H' a vs:=fun H' hs=>by
   rcases h1' with ⟨n,o,e⟩ | h
   ·exact .inl (.inr ⟨o,hs _ _ (by rw [I5 fun q=>n (.inr q)]; exact e)⟩)
   ·exact .inr h
  exact .inl ⟨a,rfl,⟨vs,hl H1 Jn⟩,q _ _ s1 (K7 hl r.kE)⟩
def JL(lo:Int)(n:Nat):List Dt:=(List.range n).map fun (k:Nat)=>Dt.int (lo + (k:Int))
theorem JP(lo:Int)(n:Nat):(JL lo n).length=n:=by unfold JL; simp
def Fi(i:Int):Bool:=decide (-(2 ^ 62)≤i∧i < 2 ^ 62)
def Zo:List Dt→Option (List Dt)
 | [.int j]=>if Fi j=true then some (JL 0 j.toNat) else none
 | [.int i,.int j]=>if Fi i=true∧Fi j=true then some (JL i (j - i).toNat) else none
 | _=>none
@[simp] theorem Jz(j:Int):Zo [.int j]=if Fi j=true then some (JL 0 j.toNat) else none:=rfl
def Dr(f:Env→Out (List Dt)):Env→Out (List Dt):=fun ρ=>(f ρ).bind fun ds=>GI (Zo ds)
theorem RZ(lo:Int)(n:Nat)(B:Hp):Walks κ B A0 (Itr lo n) (JL lo n) where
 go:=fun i H _ hi=>by rw [JP] at hi; exact hi
 stop:=fun H _=>by rw [JP]; exact Nat.le_refl n
 yld:=fun i H x H' d _ y e=>by
  obtain ⟨rfl,rfl⟩:=y
  refine ⟨Same.refl _,fun A _=>?_⟩
  unfold JL at e
  rw [List.getElem?_map] at e
  cases e1:(List.range n)[i]? with
  | none=>rw [e1] at e; cases e
  | some k=>
   rw [e1] at e
   obtain ⟨_,e2⟩:=List.getElem?_eq_some_iff.mp e1
   rw [List.getElem_range] at e2
   subst e2
   cases e
   rfl
theorem Dg{κ:KM}{H:Hp}{A:Ad}{d:Dt}{vs:List V}(r:Ah κ H A [d] vs):∃ v,vs=[v]∧Rep κ H A d v:=by
 unfold Ah at r
 obtain ⟨v,t,rfl,h1,h2⟩:=r
 unfold Ah at h2
 exact ⟨v,by rw [h2],h1⟩
theorem P4{κ:KM}{H:Hp}{A:Ad}{d e:Dt}{vs:List V}(r:Ah κ H A [d,e] vs):∃ v u,vs=[v,u]∧Rep κ H A d v∧Rep κ H A e u:=by
 unfold Ah at r
 obtain ⟨v,t,rfl,h1,h2⟩:=r
 obtain ⟨u,rfl,h3⟩:=Dg h2
 exact ⟨v,u,rfl,h1,h3⟩
theorem Qb{i:Int}:Fi i=true ↔ -(2 ^ 62)≤i∧i < 2 ^ 62:=by unfold Fi; exact decide_eq_true_iff
theorem aS{ta:TA}{f:Env→Out (List Dt)}(hn:∀ ρ ds,f ρ=.ok ds→ds.length=1)(ha:Ub K W ta f lk):gH K W (iRng1 ta) (Dr f) []:=by
 intro μ H0 A0 ρ σ H R s h
 unfold Dr at h
 refine ha _ _ _ _ _ _ _ s (h.seq fun ds e0 h1 vs H1 s1 r1=>?_)
 obtain ⟨es,e,q⟩:=B6 h1
 match ds,hn ρ ds e0 with
 | [.int j],_=>
  rw [Jz] at e
  obtain ⟨c,rfl⟩:=Bq e
  obtain ⟨v,rfl,r⟩:=Dg r1
  have e1:v=.int j:=r
  subst e1
  rw [Qb] at c
  exact ⟨j,rfl,c.1,c.2,q _ _ s1 (RZ 0 _ _)⟩
 | [.non],_=>cases e
 | [.bl _],_=>cases e
 | [.str _],_=>cases e
 | [.ty _],_=>cases e
 | [.cls _],_=>cases e
 | [.tup _],_=>cases e
 | [.lst _],_=>cases e
 | [.fls _],_=>cases e
 | [.dic _ _],_=>cases e
 | [.obj _ _ _],_=>cases e
 | [.ad _],_=>cases e
 | [.dit _ _],_=>cases e
 | [.exn _ _ _ _ _],_=>cases e
theorem Yb:∀ ρ ds,Ag ρ=.ok ds→ds.length=0:=fun ρ ds h=>by cases h; rfl
theorem ZS{n:Nat}{f:Env→Out Dt}{g:Env→Out (List Dt)}(h:∀ ρ ds,g ρ=.ok ds→ds.length=n):∀ ρ ds,Ab f g ρ=.ok ds→ds.length=n + 1:=fun ρ ds e=>by
 obtain ⟨d,_,e1⟩:=Out.Gh e
 obtain ⟨es,e2,e3⟩:=Out.Gh e1
 cases e3
 rw [List.length_cons,h _ _ e2]
end
section
variable {X:Cx} {W:WX} {tg e a b:Expr} {f fa fb:Env→Out Dt} {lk la lb:List Nat} {p pos:Pos}
open PySem.Spec PyProof.Rows in
theorem ZJ{l:Expr}{tl:TE}(hl:PE X l tl):PI X tg l (jk X.K tl):=by
 refine ⟨fun pins s σ H R I h=>?_⟩
 refine thn (hl.run pins s σ H _ I h) fun v s1 ⟨x,H1,I1,r1,q1⟩=>?_
 rcases q1 with ⟨a,e,⟨xs,hq⟩,q⟩ | ⟨a,e,⟨xs,hq⟩,q⟩ | ⟨z,e,q⟩
 ·subst e
  cases r1
  obtain ⟨its,rv,p,hz⟩:=I1.list hq
  refine wpAny_pyIter_list p.isList ?_
  refine ⟨s1.heap.objs.size,[s1.heap.objs.size],_,_,H1,rfl,I1.kept (t':=s1.toks) fun b o e=>Heap.get?_push_of_some _ e,turn_list a _,⟨_,Heap.get?_push_size _ rfl,rfl,rfl⟩,fun b hb=>?_,q⟩
  have e:b=s1.heap.objs.size:=by simpa using hb
  subst e
  exact I1.fpOk (Nat.le_refl _) (I1.hok.fresh (Nat.le_refl _))
 ·subst e
  cases r1
  obtain ⟨its,rv,p,hz⟩:=I1.tuple hq
  refine wpAny_pyIter_tuple (show s1.heap.IsTuple a its.toArray from p) ?_
  refine ⟨s1.heap.objs.size,[s1.heap.objs.size],_,_,H1,rfl,I1.kept (t':=s1.toks) fun b o e=>Heap.get?_push_of_some _ e,turn_tuple a _,⟨_,Heap.get?_push_size _ rfl,rfl,rfl⟩,fun b hb=>?_,q⟩
  have e:b=s1.heap.objs.size:=by simpa using hb
  subst e
  exact I1.fpOk (Nat.le_refl _) (I1.hok.fresh (Nat.le_refl _))
 ·subst e
  obtain ⟨t,rfl⟩:=r1
  cases ha:z.cps.all (· < 128)
  ·exact wpAny_pyIter_wide ha (pi_one (tk:=s1.toks) I1 _ (turn_str _ z t "str_iterator" (.inr rfl)) ⟨_,Heap.get?_push_size _ rfl,rfl,rfl⟩ q)
  ·exact wpAny_pyIter_ascii ha (pi_one (tk:=s1.toks) I1 _ (turn_str _ z t "str_ascii_iterator" (.inl rfl)) ⟨_,Heap.get?_push_size _ rfl,rfl,rfl⟩ q)
theorem AK(h:Bv X W e f lk):iM X W tg e (AD f) lk:=by
 obtain ⟨te,pe,de⟩:=h
 exact ⟨_,ZJ pe,cC de⟩
theorem HD(hg:Gl X "range")(hm:X.mg "range" = none)(ha:Bv X W a fa la)(hs:starEach [a] X.env=[(false,eval a X.env)]:=by rfl):iM X W tg (.Call (.Name "range" p) [a] [] pos) (Dr (Ab fa Ag)) []:=by
 obtain ⟨ta,pa,da⟩:=Ae (es:=[]) ha Af hs
 exact ⟨_,pi_range1 hg hm pa hs,aS (ZS Yb) da⟩
end
end FD
namespace FD
open PySem L2 PyProof.Rows PySem.Spec
section
variable {X:Cx} {W:WX} {e a b c iter tg:Expr} {f fa fb:Env→Out Dt} {fl:Env→Out (List Dt)} {ft:Env→Out Bool} {lk la lb:List Nat} {pos p:Pos} {st:Stmt} {rest body els:List Stmt} {g h:Env→SOut} {u:Dt→Env→Option Env}
theorem Bg:JM X W [] Ar:=⟨_,pss_nil,bD⟩
theorem Ak(h1:Nq X W st g)(h2:JM X W rest h):JM X W (st :: rest) (Ao g h):=by
 obtain ⟨t,p,d⟩:=h1
 obtain ⟨t',p',d'⟩:=h2
 exact ⟨_,pss_cons p p',dc d d'⟩
theorem An(h1:Nq X W st g):JM X W [st] g:=by
 obtain ⟨t,p,d⟩:=h1
 exact ⟨_,pss_one p,d⟩
theorem AH(h:Bv X W e f lk):Nq X W (.Return (some e) pos) (AE f lk):=by
 obtain ⟨t,p,d⟩:=h
 exact ⟨_,ps_ret p,eG d⟩
theorem CQ(hc:VP X W c ft lk)(ha:JM X W body g)(hb:JM X W els h):Nq X W (.If c body els pos) (BR ft g h):=by
 obtain ⟨t,p,d⟩:=hc
 obtain ⟨t1,p1,d1⟩:=ha
 obtain ⟨t2,p2,d2⟩:=hb
 exact ⟨_,ps_if p p1 p2,iw d d1 d2⟩
theorem LJ(h:Bv X W e f lk)(hs:swapsWith e none pos.line X.env=pure false:=by rfl):Nq X W (.Expr e pos) (JK f):=by
 obtain ⟨t,p,d⟩:=h
 exact ⟨_,ps_expr p hs,ZZ d⟩
theorem Cy(i:Nat){x:Str}{pos':Pos}(hN:X.N.Nodup)(h:Bv X W e f lk)(hi:X.N[i]? = some x:=by rfl)(hx:Loc X.env.scope x:=by first | exact Or.inl rfl | exact Or.inr rfl)(hs:swapsWith e (some (.Name x pos')) pos.line X.env=pure false:=by rfl)
  (hf:X.fn x=true∨X.env.scope.names.lookup x=some .local:=by first | exact .inl rfl | exact .inr rfl | assumption):Nq X W (.Assign [.Name x pos'] e pos) (B2 i f lk):=by
 obtain ⟨t,p,d⟩:=h
 exact ⟨_,ps_set hN hi hx p hs hf,eR d⟩
theorem Qe(i:Nat){x:Str}{pos':Pos}(hN:X.N.Nodup)(h:ZC X W e fl lk)(hi:X.N[i]? = some x:=by rfl)(hx:Loc X.env.scope x:=by first | exact Or.inl rfl | exact Or.inr rfl)(hs:swapsWith e (some (.Name x pos')) pos.line X.env=pure false:=by rfl)
  (hf:X.fn x=true∨X.env.scope.names.lookup x=some .local:=by first | exact .inl rfl | exact .inr rfl | assumption):Nq X W (.Assign [.Name x pos'] e pos) (Hh i fl lk):=by
 obtain ⟨t,p,d⟩:=h
 exact ⟨_,ps_set hN hi hx p hs hf,VL d⟩
theorem MD(i:Nat){x:Str}{p1 p2 p3:Pos}(h:Bv X W e f lk)(hN:X.N[i]? = some x:=by rfl)(hv:Vis X.env.scope x:=by first | exact Or.inl rfl | exact Or.inr (Or.inl rfl) | exact Or.inr (Or.inr rfl))(hd:(x == ("__debug__" : Str))=false:=by decide)
  (hcd:(x == ("__classdict__" : Str))=false:=by decide) (hs:starEach [e] X.env=(false,eval e X.env) :: starEach [] X.env:=by rfl) (hbase:attributeBase (.Name x p1) "append" X.env (eval (.Name x p1) X.env)=eval (.Name x p1) X.env:=by rfl)
  (hfew:((backTo p3 (starEach [e] X.env)).all (fun x=>!x.1) && (backToKw p3 (keywordEach [] X.env)).all (fun x=>x.1.isSome)
   && decide (([e]:List Expr).length + ([]:List Keyword).length + (if ([]:List Keyword).isEmpty then 0 else 1) < 30))=true:=by rfl) (hline:(p2.endLine == p3.line)=true:=by rfl) (hsw:swapsWith (.Call (.Attribute (.Name x p1) "append" p2) [e] [] p3) none pos.line X.env=pure false:=by rfl):Nq X W (.Expr (.Call (.Attribute (.Name x p1) "append" p2) [e] [] p3) pos) (Du i f lk):=by
 obtain ⟨t,p,d⟩:=h
 exact ⟨_,ps_expr (pe_bm PySem.F.plainAttrs_list PySem.F.slot_list_append PySem.F.type_list_append mt_append (pe_var hN hv hd hcd) (pa_cons p pa_nil hs) hbase hfew hline hs rfl) hsw,WJ d⟩
theorem Ax(i:Nat){x:Str}(hN:X.N.Nodup)(hi:X.N[i]? = some x:=by rfl)(hx:Loc X.env.scope x:=by first | exact Or.inl rfl | exact Or.inr rfl)(hf:X.fn x=true∨X.env.scope.names.lookup x=some .local:=by first | exact .inl rfl | exact .inr rfl | assumption):Wt X (.Name x pos) (Ai i) [i]:=
 ⟨_,pg_name hN hi hx hf,bT⟩
theorem KO:dy X [] Fc []:=⟨_,pgs_nil,aI⟩
theorem Dv{es:List Expr}{us:List Dt→Env→Option Env}{S T:List Nat}(h1:Wt X e u S)(h2:dy X es us T)(hs:(assignEach (e :: es) X.env).map (·.2)=assign e X.env :: (assignEach es X.env).map (·.2):=by rfl):dy X (e :: es) (AY u us) (S ++ T):=by
 obtain ⟨t,p,d⟩:=h1
 obtain ⟨t',p',d'⟩:=h2
 exact ⟨_,pgs_cons p p' hs,YF d d'⟩
theorem GS:∀ ds ρ ρ',Fc ds ρ=some ρ'→ds.length=0:=fun ds ρ ρ' h=>by
 cases ds with
 | nil=>rfl
 | cons d ds=>cases h
theorem BN{us:List Dt→Env→Option Env}{n:Nat}(h:∀ ds ρ ρ',us ds ρ=some ρ'→ds.length=n):∀ ds ρ ρ',AY u us ds ρ=some ρ'→ds.length=n + 1:=fun ds ρ ρ' e=>by
 cases ds with
 | nil=>cases e
 | cons d ds=>
  have e':(u d ρ).bind (fun ρ'=>us ds ρ')=some ρ':=e
  cases e1:u d ρ with
  | none=>rw [e1] at e'; cases e'
  | some ρ1=>
   rw [e1] at e'
   rw [List.length_cons,h _ _ _ e']
theorem N6{es:List Expr}{k n:Nat}{us:List Dt→Env→Option Env}{S:List Nat}(hc:X.calm=true)(h:dy X es us S)(hn:∀ ds ρ ρ',us ds ρ=some ρ'→ds.length=n)(hl:(assignEach es X.env).length=n:=by rfl)(hst:(assignEach es X.env).findIdx? (·.1)=none:=by rfl):
  Wt X (.Tuple es k pos) (FC us) S:=by
 obtain ⟨t,p,d⟩:=h
 exact ⟨_,pg_tup hc p hl hst,cq d hn⟩
theorem jO{S:List Nat}(ha:Bv X W e f lk)(hg:Wt X tg u S)(hs:swapsWithSole [tg] e pos.line X.env=pure false:=by rfl)(hw:swappedStores [tg] e X.env=pure none:=by rfl)(h1:(assignEach [tg] X.env).map (·.2)=[assign tg X.env]:=by rfl):
  Nq X W (.Assign [tg] e pos) (aE u f lk):=by
 obtain ⟨t,p,d⟩:=ha
 obtain ⟨t',p',d'⟩:=hg
 exact ⟨_,ps_asg p p' hs hw h1,dE d d'⟩
theorem CD{S:List Nat}(hp:PassesOwn (model X.prog X.w) X.A X.env X.xe)(hc:X.calm=true)(hi:iM X W tg iter fl lk)(hg:Wt X tg u S)(hb:JM X W body g)(hs:∀ x,foldedSetIterable iter X.env x=pure x:=by intro _; rfl):Nq X W (.For tg iter body [] pos) (AW u fl lk g):=by
 obtain ⟨t,p,d⟩:=hi
 obtain ⟨t',p',d'⟩:=hg
 obtain ⟨t2,p2,d2⟩:=hb
 exact ⟨_,ps_for hp hc p p' p2 hs,S4 d d' d2⟩
end
def DA(K:PySem.W.Frag)(n:Nat)(φ:List Dt→Out Dt):Sp:=fun vs H Q E=>∃ (ds:List Dt) (A:Ad) (μ:Mu),Ah ⟨K,μ⟩ H A ds vs∧ds.length=n∧(∀ a,A a→Mut (H a))∧match φ ds with
 | .ok d=>∀ v H',Same H H'→Rep ⟨K,μ⟩ H' A d v→Q v H'
 | .exc x=>∀ c od H',Same H H'→Qu K H' x c od→E c od H'
 | .bad=>False
def AB(n:Nat)(g:Env→SOut)(ds:List Dt):Out Dt:=match g (ds.map (fun d=>some (Lo.sh d)) ++ List.replicate (n - ds.length) none) with
 | .ok .nx _=>.ok .non
 | .ok (.rt d) _=>.ok d
 | .exc x _=>.exc x
 | _=>.bad
section
variable {P:Program} {w:World} {K:PySem.W.Frag} {mg:Str→Option Value} {base:Heap} {H:Hp} {A:Ad}
theorem aM{κ:KM}{N:List Str}{ds:List Dt}{vs:List V}(r:Ah κ H A ds vs)(ha:∀ a,A a→Mut (H a)):StOk κ H A H (ds.map (fun d=>some (Lo.sh d)) ++ List.replicate (N.length - ds.length) none) (L2.start N vs):=by
 have cases':∀ (i:Nat) (l:Lo),(ds.map (fun d=>some (Lo.sh d)) ++ List.replicate (N.length - ds.length) none)[i]? = some (some l)→∃ d,ds[i]? = some d∧l=.sh d:=fun i l e=>by
  by_cases h:i < ds.length
  ·rw [List.getElem?_append_left (by simpa using h),List.getElem?_map,List.getElem?_eq_getElem h] at e
   cases e
   exact ⟨_,List.getElem?_eq_getElem h,rfl⟩
  ·rw [List.getElem?_append_right (by simpa using Nat.le_of_not_lt h),List.getElem?_replicate] at e
   split at e <;> cases e
 have own:∀ i a,¬ Bw κ (ds.map (fun d=>some (Lo.sh d)) ++ List.replicate (N.length - ds.length) none) (L2.start N vs) i a:=by
  rintro i a ⟨l,e,ho⟩
  obtain ⟨d,_,rfl⟩:=cases' i l e
  exact ho
 have av:∀ lk a,Av κ A (ds.map (fun d=>some (Lo.sh d)) ++ List.replicate (N.length - ds.length) none) (L2.start N vs) lk a→A a:=by
  rintro lk a (z | ⟨i,_,z⟩)
  ·exact z
  ·exact absurd z (own i a)
 refine ⟨Same.refl H,ha,by unfold L2.start; simp [r.length],fun i l e=>?_,fun i j a h=>absurd h (own i a),fun i j cs cs' e=>?_,fun _ i cs e=>?_⟩
 ·obtain ⟨d',e1,rfl⟩:=cases' i _ e
  obtain ⟨v,e3,r3⟩:=r.get e1
  refine ⟨v,?_,r3.BZ fun a z=>av [] a z⟩
  unfold L2.start
  have hi:i < vs.length:=(List.getElem?_eq_some_iff.mp e3).1
  rw [List.getElem?_append_left (by simpa using hi),List.getElem?_map,e3]
  rfl
 ·obtain ⟨d',_,e2⟩:=cases' i _ e
  cases e2
 ·obtain ⟨d',_,e2⟩:=cases' i _ e
  cases e2
theorem bQ{N:List Str}{ds:List Dt}{vs:List V}{μ:Mu}{g:Env→SOut}{ts:TS}{Q:VK}{E:XK}(hd:Jc K (fun c d _ H'=>E c d H') ts g)(r:Ah ⟨K,μ⟩ H A ds vs)(ha:∀ a,A a→Mut (H a))
  (h:match AB N.length g ds with
   | .ok d=>∀ v H',Same H H'→Rep ⟨K,μ⟩ H' A d v→Q v H'
   | .exc x=>∀ c od H',Same H H'→Qu K H' x c od→E c od H'
   | .bad=>False) (D:Ends) (hn:∀ σ H',Q .non H'→D.nx σ H') (hr:∀ v H',Q v H'→D.rt v H'):ts D (L2.start N vs) H:=by
 have r':Ah ⟨K,⟨μ.l,true⟩⟩ H A ds vs:=Ah.fx r
 refine hd ⟨μ.l,true⟩ H A _ _ H _ (aM r' ha) ?_
 unfold AB at h
 cases e:g (ds.map (fun d=>some (Lo.sh d)) ++ List.replicate (N.length - ds.length) none) with
 | ok fl ρ=>
  rw [e] at h
  cases fl with
  | nx=>exact fun μ' σ H' y s'=>hn σ H' (h .non H' s'.same rfl)
  | rt d=>
   intro μ' v σ H' y s' r'
   have e:=y.stay rfl
   subst e
   exact hr v H' (h v H' s'.same (Rep.fx (r'.BZ fun a z=>.inl z)))
  | bk=>exact h.elim
  | ct=>exact h.elim
 | exc x ρ=>
  rw [e] at h
  exact fun μ' σ H' c od y s' r'=>h c od H' s'.same r'
 | bad=>rw [e] at h; exact h.elim
structure Cl (P:Program) (w:World) (K:PySem.W.Frag) (mg:Str→Option Value) (base:Heap) (x:Str) (k:Nat) (n:Nat) (dd:List Dt) (φ:List Dt→Out Dt):Prop where
 ex:∃ (f:Addr) (fd:FuncData) (ps:List Str) (ds:List Value) (dvs:List V),FnOk P w K mg base (L2N.CX P w) k f fd ps (DA K n φ)∧mg x=some (.ref f)∧PySem.W.keepIn K (.ref f)=true∧Binds K fd ps ds∧Vals dvs ds∧∀ κ H A,Ah κ H A dd dvs
end
section
variable {X:Cx} {W:WX} {e:Expr} {es:List Expr} {fs:Env→Out (List Dt)} {lk:List Nat} {p pos:Pos} {φ:List Dt→Out Dt}
def Uc(K:PySem.W.Frag)(r:List V→Hp→VK→Prop)(g:List Dt→Option Dt):Prop:=∀ (μ:Mu) (H:Hp) (A:Ad) (ds:List Dt) (d:Dt) (vs:List V) (Q:VK),(∀ c,A c→Mut (H c))→Ah ⟨K,μ⟩ H A ds vs→g ds=some d→RE ⟨K,μ⟩ A H Q d→r vs H Q
def eB(g:List Dt→Option Dt)(f:Env→Out (List Dt)):Env→Out Dt:=fun ρ=>(f ρ).bind fun ds=>GI (g ds)
theorem XF{K:PySem.W.Frag}{ta:TA}{r:List V→Hp→VK→Prop}{g:List Dt→Option Dt}(hr:Uc K r g)(ha:Ub K W ta fs lk):D3 K W (tCB r ta) (eB g fs) lk:=by
 intro μ H0 A0 ρ σ H Q s h
 refine ha _ _ _ _ _ _ _ s (h.seq fun ds _ h1 vs H1 s1 r1=>?_)
 obtain ⟨d,e,q⟩:=B6 h1
 exact hr _ H1 _ ds d vs Q (fun c z=>(s.grow s1).Ec z) r1 e (RE.grow s1 q)
theorem F4{K:PySem.W.Frag}{ta:TA}{r:List V→Hp→VK→Prop}{g:List Dt→Option Dt}(hr:Uc K r g)(hg:∀ ds d,g ds=some d→d.scal=true)(ha:Ub K W ta fs lk):D3 K W (tCB r ta) (eB g fs) []:=by
 intro μ H0 A0 ρ σ H Q s h
 refine ha _ _ _ _ _ _ _ s (h.seq fun ds _ h1 vs H1 s1 r1=>?_)
 obtain ⟨d,e,q⟩:=B6 h1
 exact hr _ H1 bX ds d vs Q (fun c z=>False.elim z) (r1.BZ fun a z=>False.elim z) e fun v H' s' r=>q v H' (s1.trans s') (r.scal (hg _ _ e))
def CaL(K:PySem.W.Frag)(r:List V→Hp→VK→Prop)(g:List Dt→Option (List Dt)):Prop:=∀ (μ:Mu) (H:Hp) (A:Ad) (ds:List Dt) (es:List Dt) (vs:List V) (Q:VK),Ah ⟨K,μ⟩ H A ds vs→g ds=some es→(∀ p us,H p=none→Ah ⟨K,μ⟩ H A es us→Q (.ref p) (upd H p (.lst us)))→r vs H Q
def lB(g:List Dt→Option (List Dt))(f:Env→Out (List Dt)):Env→Out (List Dt):=fun ρ=>(f ρ).bind fun ds=>GI (g ds)
theorem g4{K:PySem.W.Frag}{ta:TA}{r:List V→Hp→VK→Prop}{g:List Dt→Option (List Dt)}(hr:CaL K r g)(ha:Ub K W ta fs lk):au K W (tCB r ta) (lB g fs) lk:=by
 intro μ H0 A0 ρ σ H Q s h
 refine ha _ _ _ _ _ _ _ s (h.seq fun ds _ h1 vs H1 s1 r1=>?_)
 obtain ⟨d,e,q⟩:=B6 h1
 exact hr _ H1 _ ds d vs Q r1 e fun p us hp r=>q p us _ (s1.trans (Same.new hp)) (s1.free hp) upd_same ((Ah.fresh hp _ _ r).same (Same.new hp))
def CI:List Dt→Option Dt
 | [.tup ds]=>some (.int ds.length)
 | [.ptp ds]=>some (.int ds.length)
 | [.lst ds]=>some (.int ds.length)
 | [.fls ds]=>some (.int ds.length)
 | [.str s]=>if s.length≤16777216 then some (.int s.length) else none
 | _=>none
@[simp] theorem M3(ds:List Dt):CI [.tup ds]=some (.int ds.length):=rfl
@[simp] theorem Vb(ds:List Dt):CI [.ptp ds]=some (.int ds.length):=rfl
@[simp] theorem KL(ds:List Dt):CI [.lst ds]=some (.int ds.length):=rfl
@[simp] theorem Z8(ds:List Dt):CI [.fls ds]=some (.int ds.length):=rfl
theorem SqL.ez{K:PySem.W.Frag}{H:Hp}{A:Ad}{a:Addr}{vs:List V}(h:(¬ A a∧∃ o,H a=some (.frz o (.lst vs)))∨jT K a vs):SqL K H a vs:=by
 rcases h with ⟨_,o,h⟩ | h
 ·exact .inl (.inr ⟨o,h⟩)
 ·exact .inr h
theorem cU{K:PySem.W.Frag}:Uc K (fun xs H Q=>∃ x n,xs=[x]∧LenV K x H n∧Q (.int n) H) CI:=by
 intro μ H A ds d vs Q ha r e q
 unfold CI at e
 split at e
 ·obtain ⟨v,rfl,rr⟩:=Dg r
  cases e
  unfold Rep at rr
  obtain ⟨a,vs,rfl,h1,h2⟩:=rr
  exact ⟨_,vs.length,rfl,.inr ⟨vs,SqT.Zy h1,rfl⟩,RE.now q (by rw [h2.length]; rfl)⟩
 ·obtain ⟨v,rfl,rr⟩:=Dg r
  cases e
  unfold Rep at rr
  obtain ⟨a,vs,rfl,⟨_,o,h1,_⟩,h2⟩:=rr
  exact ⟨_,vs.length,rfl,.inr ⟨vs,.inl (.inr ⟨o,h1⟩),rfl⟩,RE.now q (by rw [h2.length]; rfl)⟩
 ·obtain ⟨v,rfl,rr⟩:=Dg r
  cases e
  unfold Rep at rr
  obtain ⟨a,vs,rfl,_,h1,h2⟩:=rr
  exact ⟨_,vs.length,rfl,.inl ⟨vs,SqL.of h1,rfl⟩,RE.now q (by rw [h2.length]; rfl)⟩
 ·obtain ⟨v,rfl,rr⟩:=Dg r
  cases e
  unfold Rep at rr
  obtain ⟨a,vs,rfl,h1,h2⟩:=rr
  exact ⟨_,vs.length,rfl,.inl ⟨vs,SqL.ez h1,rfl⟩,RE.now q (by rw [h2.length]; rfl)⟩
 ·rename_i s
  obtain ⟨v,rfl,rr⟩:=Dg r
  obtain ⟨h1,rfl⟩:=Bq e
  have e1:v=.str s:=rr
  subst e1
  exact ⟨_,s.length,rfl,⟨by rw [sizeLine_eq]; exact h1,rfl⟩,RE.now q rfl⟩
 ·cases e
theorem Yx:∀ ds d,CI ds=some d→d.scal=true:=fun ds d e=>by
 unfold CI at e
 split at e
 ·cases e; rfl
 ·cases e; rfl
 ·cases e; rfl
 ·cases e; rfl
 ·obtain ⟨_,rfl⟩:=Bq e; rfl
 ·cases e
theorem FO(hg:Gl X "len")(hm:X.mg "len" = none)(ha:JN X W [e] fs lk)(he:starEach [e] X.env=(false,eval e X.env) :: starEach [] X.env:=by rfl):Bv X W (.Call (.Name "len" p) [e] [] pos) (eB CI fs) []:=by
 obtain ⟨ta,pa,da⟩:=ha
 exact ⟨_,pe_callB call_len hg hm boot_len pa (by decide) (by decide) he rfl,F4 cU Yx da⟩
def Ra:List Dt→Option Dt
 | [.int i]=>some (.int (if i < 0 then -i else i))
 | _=>none
@[simp] theorem Ke(i:Int):Ra [.int i]=some (.int (if i < 0 then -i else i)):=rfl
theorem eP{K:PySem.W.Frag}:Uc K (fun xs H Q=>∃ i,xs=[.int i]∧Q (.int (if i < 0 then -i else i)) H) Ra:=by
 intro μ H A ds d vs Q ha r e q
 unfold Ra at e
 split at e
 ·obtain ⟨v,rfl,rr⟩:=Dg r
  cases e
  have e1:v=.int _:=rr
  subst e1
  exact ⟨_,rfl,RE.now q rfl⟩
 ·cases e
theorem Y4:∀ ds d,Ra ds=some d→d.scal=true:=fun ds d e=>by
 unfold Ra at e
 split at e <;> first | (cases e; rfl) | cases e
theorem iB(hg:Gl X "abs")(hm:X.mg "abs" = none)(ha:JN X W [e] fs lk)(he:starEach [e] X.env=(false,eval e X.env) :: starEach [] X.env:=by rfl):Bv X W (.Call (.Name "abs" p) [e] [] pos) (eB Ra fs) []:=by
 obtain ⟨ta,pa,da⟩:=ha
 exact ⟨_,pe_callB call_abs hg hm PyProof.Rows.boot_abs pa (by decide) (by decide) he rfl,F4 eP Y4 da⟩
def Dt.gT:Dt→Option String
 | .non=>some "NoneType" | .bl _=>some "bool" | .int _=>some "int" | .str _=>some "str" | .tup _=>some "tuple" | .ptp _=>some "tuple" | .lst _=>some "list" | .dic _ _=>some "dict"
 | _=>none
def EM:List Dt→Option Dt
 | [d,.ty n]=>d.gT.bind fun t=>(kitB t n).map fun b=>.bl b
 | _=>none
end
end FD
namespace FD
open PySem L2 PyProof.Rows PySem.Spec
def Bl:Dt→Dt→Option Dt
 | .tup ds,.int i=>atI ds i
 | .lst ds,.int i=>atI ds i
 | .fls ds,.int i=>atI ds i
 | .str s,.int i=>if s.length≤16777216 then (atI s.cps.toList i).map fun c=>.str ⟨#[c]⟩ else none
 | _,_=>none
@[simp] theorem MW(ds:List Dt)(i:Int):Bl (.tup ds) (.int i)=atI ds i:=rfl
@[simp] theorem MZ(ds:List Dt)(i:Int):Bl (.lst ds) (.int i)=atI ds i:=rfl
@[simp] theorem MY(ds:List Dt)(i:Int):Bl (.fls ds) (.int i)=atI ds i:=rfl
@[simp] theorem Xf(s:Str)(i:Int):Bl (.str s) (.int i)=if s.length≤16777216 then (atI s.cps.toList i).map fun c=>.str ⟨#[c]⟩ else none:=rfl
section
variable {K:PySem.W.Frag} {κ:KM} {μ:Mu} {W:WX} {H0 H H1:Hp} {A A0:Ad} {ρ:Env} {σ:L2.St} {lk la lb:List Nat}
theorem Ah.at{ds:List Dt}{vs:List V}{i:Int}{d:Dt}(r:Ah κ H A ds vs)(e:atI ds i=some d):∃ v,atI vs i=some v∧Rep κ H A d v:=by
 unfold atI at e ⊢
 rw [r.length]
 cases h:ixN ds.length i with
 | none=>rw [h] at e; cases e
 | some j=>
  rw [h] at e
  exact r.get e
theorem TM:Sx K (rIx K) Bl:=by
 intro μ H A a b d x y Q _ ra rb e q
 cases a <;> cases b <;> try (cases e; done)
 ·rename_i z i
  have e1:x=.str z:=ra
  have e2:y=.int i:=rb
  subst e1 e2
  rw [Xf] at e
  split at e
  ·rename_i hz
   cases h:atI z.cps.toList i with
   | none=>rw [h] at e; cases e
   | some c=>
    rw [h] at e
    cases e
    exact .inr (.inr ⟨z,i,c,rfl,rfl,by rw [sizeLine_eq]; exact hz,h,RE.now q rfl⟩)
  ·cases e
 ·rename_i ds i
  have e2:y=.int i:=rb
  subst e2
  unfold Rep at ra
  obtain ⟨p,vs,rfl,h1,r⟩:=ra
  obtain ⟨v,e1,r1⟩:=r.at (show atI ds i=some d from e)
  exact .inr (.inl ⟨p,vs,i,v,rfl,rfl,SqT.Zy h1,e1,RE.now q r1⟩)
 ·rename_i ds i
  have e2:y=.int i:=rb
  subst e2
  unfold Rep at ra
  obtain ⟨p,vs,rfl,_,h1,r⟩:=ra
  obtain ⟨v,e1,r1⟩:=r.at (show atI ds i=some d from e)
  exact .inl ⟨p,vs,i,v,rfl,rfl,SqL.of h1,e1,RE.now q r1⟩
 ·rename_i ds i
  have e2:y=.int i:=rb
  subst e2
  unfold Rep at ra
  obtain ⟨p,vs,rfl,h1,r⟩:=ra
  obtain ⟨v,e1,r1⟩:=r.at (show atI ds i=some d from e)
  exact .inl ⟨p,vs,i,v,rfl,rfl,SqL.ez h1,e1,RE.now q r1⟩
theorem Xd{a b d:Dt}{v:V}(e:Bl a b=some d)(r:Rep κ H A b v){A':Ad}:Rep κ H A' b v:=by
 cases b with
 | int i=>exact r
 | _=>cases a <;> cases e
theorem X7(i:Nat){tb:TE}{fb:Env→Out Dt}(hb:D3 K W tb fb lb):D3 K W (tOp (rIx K) (tVar i) tb) (e2 (Aa i) fb Bl) []:=by
 intro μ H0 A0 ρ σ H Q s h
 unfold e2 Aa at h
 split at h
 ·exact False.elim h
 ·rename_i l hn e
  simp only [Out.AA] at h
  have hmh:l.UD=false:=by cases l with | mh cs=>exact (hn cs rfl).elim | _=>rfl
  obtain ⟨v,e1,r1⟩:=s.val e hmh
  refine ⟨v,e1,?_⟩
  refine hb _ _ _ _ _ _ _ s (h.seq fun b _ h2 v2 H2 s2 r2=>?_)
  obtain ⟨d,e3,q⟩:=B6 h2
  have lo:=s.lo i l e
  cases l with
  | sh d'=>
   obtain ⟨u,e4,r4⟩:=lo
   rw [e1] at e4
   cases e4
   exact TM (K:=K) μ H2 (Av ⟨K,μ⟩ A0 ρ σ []) d' b d v v2 Q (fun c z=>(s.grow s2).LG z) (r4.same s2) (Xd e3 r2) e3 (RE.grow s2 q)
  | ol ds=>
   obtain ⟨a,vs,e4,h0,h1,r4⟩:=lo
   rw [e1] at e4
   cases e4
   cases b <;> try (cases e3; done)
   rename_i k _
   have e5:v2=.int k:=r2
   subst e5
   obtain ⟨w,e6,r6⟩:=(r4.same s2).at (show atI ds k=some d from e3)
   exact .inl ⟨a,vs,k,w,rfl,rfl,SqL.of (s2 _ _ h1),e6,q _ _ s2 r6⟩
  | od ks ds=>cases b <;> cases e3
  | ot ks ds=>cases b <;> cases e3
  | mh cs=>cases hmh
 ·exact False.elim h
def WA(K:PySem.W.Frag)(W:WX)(to:TO)(f:Env→Out (Option Int)):Prop:=
 ∀ (μ:Mu) (H0:Hp) (A0:Ad) (ρ:Env) (σ:L2.St) (H:Hp) (Q:Option Int→Hp→Prop),StOk ⟨K,μ⟩ H0 A0 H ρ σ→DY K W H σ (f ρ) (fun o=>∀ H',Same H H'→Q o H')→to σ H Q
def POD(X:Cx)(W:WX)(e:Option Expr)(f:Env→Out (Option Int)):Prop:=∃ to,PO X e to∧WA X.K W to f
def Ik:Env→Out (Option Int):=fun _=>.ok none
def M6(f:Env→Out Dt):Env→Out (Option Int):=fun ρ=>(f ρ).bind fun d=>match d with
 | .int i=>.ok (some i)
 | _=>.bad
theorem d8:WA K W tNoPart Ik:=fun μ H0 A0 ρ σ H Q s h=>h H (Same.refl H)
theorem eQ{te:TE}{f:Env→Out Dt}(ha:D3 K W te f la):WA K W (tPart te) (M6 f):=by
 intro μ H0 A0 ρ σ H Q s h
 refine ha _ _ _ _ _ _ _ s (h.seq fun d _ h1 v H1 s1 r1=>?_)
 cases d <;> try (exact False.elim h1)
 exact ⟨_,r1,h1 H1 s1⟩
def cutD(ds:List Dt)(lo hi:Option Int):List Dt:=(ds.drop (HT.sIx ds.length 0 lo)).take (HT.sIx ds.length ds.length hi - HT.sIx ds.length 0 lo)
theorem Ah.cut{ds:List Dt}{vs:List V}{lo hi:Option Int}(r:Ah κ H A ds vs):Ah κ H A (cutD ds lo hi) (cutV vs lo hi):=by
 unfold cutD cutV
 rw [r.length]
 exact Ah.take _ (Ah.drop _ r)
end
section
variable {X:Cx} {W:WX} {e a b c iter tg:Expr} {f fa fb:Env→Out Dt} {lk la lb:List Nat} {pos p p2:Pos} {lo hi:Option Expr} {fl fh:Env→Out (Option Int)}
theorem gB(ha:Bv X W a fa la)(hb:Bv X W b fb lb)(hs:PlainIx b:=by exact fun _ _=>rfl):Bv X W (.Subscript a b pos) (e2 fa fb Bl) (la ++ lb):=by
 obtain ⟨ta,pa,da⟩:=ha
 obtain ⟨tb,pb,db⟩:=hb
 exact ⟨_,pe_ix ix_seq pa pb hs,gD TM da db⟩
theorem BF(i:Nat){x:Str}(hb:Bv X W b fb lb)(hN:X.N[i]? = some x:=by rfl)(hv:Vis X.env.scope x:=by first | exact Or.inl rfl | exact Or.inr (Or.inl rfl) | exact Or.inr (Or.inr rfl))(hd:(x == ("__debug__" : Str))=false:=by decide)
  (hcd:(x == ("__classdict__" : Str))=false:=by decide) (hs:PlainIx b:=by exact fun _ _=>rfl):Bv X W (.Subscript (.Name x p) b pos) (e2 (Aa i) fb Bl) []:=by
 obtain ⟨tb,pb,db⟩:=hb
 exact ⟨_,pe_ix ix_seq (pe_var hN hv hd hcd) pb hs,X7 i db⟩
theorem MH:POD X W none Ik:=⟨_,po_none,d8⟩
theorem M4(h:Bv X W e f la):POD X W (some e) (M6 f):=by
 obtain ⟨t,p,d⟩:=h
 exact ⟨_,po_some p,eQ d⟩
end
section
variable {K:PySem.W.Frag}
theorem V4{κ:KM}{H:Hp}{A:Ad}{d:Dt}{v:V}{t:String}(r:Rep κ H A d v)(e:d.gT=some t):TyX κ.K H v (.type t):=by
 cases d with
 | non=>cases e; have e1:v=.non:=r; subst e1; exact .base .non
 | bl b=>cases e; have e1:v=.bl b:=r; subst e1; exact .base (.bl b)
 | int b=>cases e; have e1:v=.int b:=r; subst e1; exact .base (.int b)
 | str b=>cases e; have e1:v=.str b:=r; subst e1; exact .base (.str b)
 | ty _=>cases e
 | cls _=>cases e
 | ad _=>cases e
 | fls _=>cases e
 | ptp _=>
  cases e
  unfold Rep at r
  obtain ⟨a,vs,rfl,⟨_,o,h,_⟩,_⟩:=r
  exact .fTuple h
 | ntp _=>cases e
 | obj _ _ _=>cases e
 | exn _ _ _ _ _=>cases e
 | tup ds=>
  cases e
  unfold Rep at r
  obtain ⟨a,vs,rfl,h | ⟨o,its,n,h1,h2,_⟩,_⟩:=r
  ·exact .base (.tup h.2)
  ·exact .kTuple h1 h2
 | lst ds=>
  cases e
  unfold Rep at r
  obtain ⟨a,vs,rfl,_,h,_⟩:=r
  exact .base (.lst h)
 | dic ks ds=>
  cases e
  unfold Rep at r
  obtain ⟨a,kvs,rfl,_,h,_⟩:=r
  rcases h with h | ⟨o,h⟩
  ·exact .base (.dK h)
  ·exact .fDict h
 | dit ks ds=>cases e
theorem cK:Uc K (rIsi K) EM:=by
 intro μ H A ds d vs Q ha r e q
 unfold EM at e
 split at e
 ·rename_i x n
  obtain ⟨v,u,rfl,r1,r2⟩:=P4 r
  have e2:u=.ty n:=r2
  subst e2
  cases h1:x.gT with
  | none=>rw [h1] at e; cases e
  | some t=>
   rw [h1] at e
   cases h2:kitB t n with
   | none=>
    have e':(kitB t n).map (fun b=>Dt.bl b)=some d:=e
    rw [h2] at e'
    cases e'
   | some b=>
    have e':(kitB t n).map (fun b=>Dt.bl b)=some d:=e
    rw [h2] at e'
    cases e'
    exact ⟨v,.ty n,.type t,.type n,b,rfl,.ty n,V4 r1 h1,kit_ty h2,RE.now q rfl⟩
 ·cases e
theorem YX:∀ ds d,EM ds=some d→d.scal=true:=fun ds d e=>by
 unfold EM at e
 split at e
 ·rename_i x n
  cases h1:x.gT with
  | none=>rw [h1] at e; cases e
  | some t=>
   rw [h1] at e
   have e':(kitB t n).map (fun b=>Dt.bl b)=some d:=e
   cases h2:kitB t n with
   | none=>rw [h2] at e'; cases e'
   | some b=>rw [h2] at e'; cases e'; rfl
 ·cases e
@[simp] theorem GW(i:Int):EM [.int i,.ty "int"]=some (.bl true):=by
 have h:kitB "int" "int" = some true:=by decide +kernel
 show (kitB "int" "int").map (fun b=>Dt.bl b)=_
 rw [h]; rfl
@[simp] theorem FL(i:Int):EM [.int i,.ty "bool"]=some (.bl false):=by
 have h:kitB "int" "bool" = some false:=by decide +kernel
 show (kitB "int" "bool").map (fun b=>Dt.bl b)=_
 rw [h]; rfl
@[simp] theorem EW(i:Bool):EM [.bl i,.ty "bool"]=some (.bl true):=by
 have h:kitB "bool" "bool" = some true:=by decide +kernel
 show (kitB "bool" "bool").map (fun b=>Dt.bl b)=_
 rw [h]; rfl
@[simp] theorem Jm(i:List Dt):EM [.tup i,.ty "tuple"]=some (.bl true):=by
 have h:kitB "tuple" "tuple" = some true:=by decide +kernel
 show (kitB "tuple" "tuple").map (fun b=>Dt.bl b)=_
 rw [h]; rfl
@[simp] theorem fG(i:Str):EM [.str i,.ty "str"]=some (.bl true):=by
 have h:kitB "str" "str" = some true:=by decide +kernel
 show (kitB "str" "str").map (fun b=>Dt.bl b)=_
 rw [h]; rfl
end
section
variable {X:Cx} {W:WX} {e a b:Expr} {fs:Env→Out (List Dt)} {lk:List Nat} {pos p:Pos}
theorem Jo(hg:Gl X "isinstance")(hm:X.mg "isinstance" = none)(ha:JN X W [a,b] fs lk)(he:starEach [a,b] X.env=(false,eval a X.env) :: starEach [b] X.env:=by rfl)(hpl:(backTo pos (starEach [b] X.env)).any (·.1)=false:=by rfl):
  Bv X W (.Call (.Name "isinstance" p) [a,b] [] pos) (eB EM fs) []:=by
 obtain ⟨ta,pa,da⟩:=ha
 exact ⟨_,pe_callB call_isi hg hm PyProof.Rows.boot_isinstance pa (by decide) (by decide) he hpl,F4 cK YX da⟩
end
def W0:WX:=fun _ _ _ _=>False
def BJ(ρ:Env):List Nat→Env
 | []=>ρ
 | v :: vs=>(BJ ρ vs).set v none
def OC{α:Type}:Out α→Out α
 | .ok a=>.ok a
 | _=>.bad
@[simp] theorem Cf{α:Type}(a:α):OC (.ok a)=.ok a:=rfl
def OF(u:Dt→Env→Option Env)(t:Env→Out Bool)(f:Env→Out Dt)(ρ:Env):List Dt→Out (List Dt)
 | []=>.ok []
 | d :: ds=>(GI (u d ρ)).bind fun ρ1=>(OC (t ρ1)).bind fun b=>if b=true then (OC (f ρ1)).bind fun y=>(OF u t f ρ ds).bind fun r=>.ok (y :: r) else OF u t f ρ ds
def EA(u:Dt→Env→Option Env)(vs:List Nat)(t:Env→Out Bool)(f:Env→Out Dt)(src:Env→Out (List Dt))(lk:List Nat):Env→Out (List Dt):=fun ρ=>(src ρ).bind fun ds=>if ds.length≤16777216 then OF u t f (BJ (frz lk ρ) vs) ds else .bad
section
variable {K:PySem.W.Frag} {κ:KM} {μ:Mu} {W:WX} {H0 H H1 H2:Hp} {A A0:Ad} {ρ:Env} {σ:L2.St} {lk la lb:List Nat}
theorem VH{ρ:Env}{i:Nat}{x:Lo}:∀ {vs:List Nat},(BJ ρ vs)[i]? = some (some x)→ρ[i]? = some (some x)∧i∉vs
 | [],h=>⟨h,by simp⟩
 | v :: vs,h=>by
  unfold BJ at h
  by_cases hi:v=i
  ·subst hi
   by_cases hv:v < (BJ ρ vs).length
   ·rw [List.getElem?_set_self hv] at h; cases h
   ·rw [List.getElem?_eq_none (by simpa using hv)] at h; cases h
  ·rw [List.getElem?_set_ne hi] at h
   obtain ⟨h1,h2⟩:=VH h
   exact ⟨h1,by simp only [List.mem_cons,not_or]; exact ⟨fun e=>hi e.symm,h2⟩⟩
theorem Ku{ρ:Env}{i:Nat}:∀ {vs:List Nat},i∉vs→(BJ ρ vs)[i]? = ρ[i]?
 | [],_=>rfl
 | v :: vs,h=>by
  unfold BJ
  rw [List.getElem?_set_ne fun e=>h (by rw [e]; exact List.mem_cons_self)]
  exact Ku fun z=>h (List.mem_cons_of_mem _ z)
theorem EF{σ:L2.St}{i:Nat}:∀ {vs:List Nat},i∉vs→(wipe σ vs)[i]? = σ[i]?
 | [],_=>rfl
 | v :: vs,h=>by
  unfold wipe
  rw [List.getElem?_set_ne fun e=>h (by rw [e]; exact List.mem_cons_self)]
  exact EF fun z=>h (List.mem_cons_of_mem _ z)
theorem aQ{vs:List Nat}{i:Nat}{a:Addr}(h:Bw κ (BJ ρ vs) (wipe σ vs) i a):Bw κ ρ σ i a∧i∉vs:=by
 obtain ⟨l,e,ho⟩:=h
 obtain ⟨e1,n⟩:=VH e
 rw [EF n] at ho
 exact ⟨⟨l,e1,ho⟩,n⟩
theorem StOk.Uh(s:StOk κ H0 A0 H ρ σ):∀ vs:List Nat,StOk κ H0 A0 H (BJ ρ vs) (wipe σ vs)
 | []=>s
 | v :: vs=>by
  unfold BJ wipe
  exact (StOk.Uh s vs).gone v
theorem StOk.j9(s:StOk κ H0 A0 H ρ σ){D:Addr}{acc:List V}(hD:H D=none)(hs:Same H H2)(h2:H2 D=some (.lst acc)):StOk κ (Bs κ H2 ρ σ []) (fun a=>A0 a∨a=D) H2 ρ σ:=by
 have nD:¬ Ow κ ρ σ [] D:=fun ⟨i,_,h⟩=>by
  obtain ⟨⟨o,e⟩,_⟩:=s.Ci h
  rw [hD] at e
  cases e
 have av:∀ a,Av κ (fun a=>A0 a∨a=D) ρ σ [] a→Av κ A0 ρ σ [] a∨H a=none:=by
  rintro a ((z | z) | z)
  ·exact .inl (.inl z)
  ·rw [z]
   exact .inr hD
  ·exact .inl (.inr z)
 have nA:∀ a,A0 a→¬ Ow κ ρ σ [] a:=fun a z q=>by
  have q1:=s.a0 a z
  rw [s.RX q] at q1
  exact q1
 refine ⟨Jn,fun a z=>?_,s.len,fun i l e=>FA.gen (F:=κ.K) (m:=κ.mu) (m':=κ.mu) (Xt.refl _) (fun _=>rfl) (fun a o _ q=>hs a o q) av (fun a _ o q=>hs a o q) (fun a ho _=>bb ⟨i,(fun z=>nomatch z),l,e,ho⟩) (s.lo i l e),s.ap,s.one,s.nm⟩
 rcases z with z | z
 ·rw [I5 (nA a z)]
  exact (s.grow hs).Ec (lk:=[]) (.inl z)
 ·subst z
  rw [I5 nD,h2]
  exact True.intro
theorem Jg{wi:TI}{g:TG}{tt:TT}{te:TE}{u:Dt→Env→Option Env}{S vs lt le:List Nat}{t:Env→Out Bool}{f:Env→Out Dt}{src:Env→Out (List Dt)}(hi:gH K W wi src lk)(hg:Zq K g u S)(hS:∀ i∈S,i∈vs)
  (ht:TY K W0 tt t lt) (he:D3 K W0 te f le):au K W (tLc wi g tt te vs) (EA u vs t f src lk) (lk ++ (le ++ vs)):=by
 intro μ H0 A0 ρ σ H Q s h
 refine hi _ _ _ _ _ _ _ s (h.seq fun ds _ h1 J H1 s1 w=>?_)
 intro D hD
 split at h1
 case isFalse=>exact False.elim h1
 rename_i hz
 obtain ⟨sB,hB⟩:=s.rebase s1 lk
 have sW:=sB.Uh vs
 -- what is wanted,without the wish
 cases eo:OF u t f (BJ (frz lk ρ) vs) ds with
 | exc x=>
  exfalso
  have key:∀ es,OF u t f (BJ (frz lk ρ) vs) es≠.exc x:=by
   intro es
   induction es with
   | nil=>intro z; cases z
   | cons d es ih=>
    intro z
    unfold OF at z
    cases e1:u d (BJ (frz lk ρ) vs) with
    | none=>rw [e1] at z; cases z
    | some ρ1=>
     rw [e1] at z
     simp only [B3,Out.AA] at z
     cases e2:t ρ1 with
     | ok b=>
      rw [e2] at z
      simp only [Cf,Out.AA] at z
      split at z
      ·cases e3:f ρ1 with
       | ok y=>
        rw [e3] at z
        simp only [Cf,Out.AA] at z
        cases e4:OF u t f (BJ (frz lk ρ) vs) es with
        | ok r=>rw [e4] at z; cases z
        | exc x'=>rw [e4] at z; cases z; exact ih e4
        | bad=>rw [e4] at z; cases z
       | exc x'=>rw [e3] at z; cases z
       | bad=>rw [e3] at z; cases z
      ·exact ih z
     | exc x'=>rw [e2] at z; cases z
     | bad=>rw [e2] at z; cases z
  exact key ds eo
 | bad=>rw [eo] at h1; exact False.elim h1
 | ok res=>
  rw [eo] at h1
  have avs:∀ a,Av ⟨K,μ⟩ A0 ρ σ (lk ++ (le ++ vs)) a→Av ⟨K,μ⟩ A0 (frz lk ρ) σ (le ++ vs) a:=by
   rintro a (z | ⟨i,n,l,e,ho⟩)
   ·exact .inl z
   ·refine .inr ⟨i,fun q=>n (List.mem_append_right _ q),l,?_,ho⟩
    exact frz_ne (fun q=>n (List.mem_append_left _ q)) e
  -- the invariant: the items so far,and what the rest will give
  refine ⟨fun i m H'=>m + i=ds.length∧Same H1 H'∧∃ (done todo:List Dt) (acc:List V),H' D=some (.lst acc)∧acc.length≤i∧OF u t f (BJ (frz lk ρ) vs) (ds.drop i)=.ok todo∧done ++ todo=res ∧
   Ah ⟨K,μ⟩ H' (fun a=>Av ⟨K,μ⟩ A0 ρ σ (lk ++ (le ++ vs)) a∨a=D) done acc,⟨ds.length,by omega,Same.new hD,[],res,[],upd_same,Nat.le_refl 0,eo,rfl,Ah.nil⟩,?_⟩
  rintro i m H2 ⟨hm,s2,done,todo,acc,hacc,hlen,e,hres,racc⟩
  have sBW:Same (Bs ⟨K,μ⟩ H1 ρ σ lk) H2:=Jn.trans s2
  by_cases hlt:i < ds.length
  ·have hd:ds.drop i=ds[i] :: ds.drop (i + 1):=List.drop_eq_getElem_cons hlt
   rw [hd] at e
   unfold OF at e
   refine .inr ⟨w.go i H2 sBW hlt,fun H'=>Same H1 H'∧∃ (done todo:List Dt) (acc:List V),H' D=some (.lst acc)∧acc.length≤i + 1∧OF u t f (BJ (frz lk ρ) vs) (ds.drop (i + 1))=.ok todo∧done ++ todo=res ∧
    Ah ⟨K,μ⟩ H' (fun a=>Av ⟨K,μ⟩ A0 ρ σ (lk ++ (le ++ vs)) a∨a=D) done acc,fun H' q=>⟨m - 1,by omega,by omega,q⟩,fun x H3 y=>?_⟩
   obtain ⟨s3,r3⟩:=w.yld i H2 x H3 ds[i] sBW y (List.getElem?_eq_getElem hlt)
   have hacc3:=s3 _ _ hacc
   have sD:=sW.j9 hD (s2.trans s3) hacc3
   cases eu:u ds[i] (BJ (frz lk ρ) vs) with
   | none=>rw [eu] at e; cases e
   | some ρ1=>
    rw [eu] at e
    simp only [B3,Out.AA] at e
    refine hg _ _ _ _ _ _ _ _ _ _ sD (r3 _ fun a z=>?_) eu fun σ4 s4 m4 o4=>⟨?_,?_⟩
    ·rcases z with (z | z) | ⟨j,n,z⟩
     ·refine ⟨.inl z,?_⟩
      have q:=sD.Ec (lk:=[]) (a:=a) (.inl (.inl z))
      intro z2
      have z3:H3 a=none:=by
       cases q3:H3 a with
       | none=>rfl
       | some o=>
        exfalso
        have q4:=(s.grow s1).Ec (lk:=[]) (a:=a) (.inl z)
        cases q5:H1 a with
        | none=>rw [q5] at q4; exact q4
        | some o'=>
         have q6:=s2 a o' q5
         rw [z2] at q6
         cases q6
      rw [z3] at q
      exact q
     ·subst z
      refine ⟨.inr ?_,by rw [hacc]; intro z; cases z⟩
      have:Bs ⟨K,μ⟩ H1 ρ σ lk a=none:=by
       unfold Bs
       split
       ·rfl
       ·exact hD
      exact this
     ·obtain ⟨z1,_⟩:=aQ z
      refine ⟨.inr ?_,?_⟩
      ·exact (sB.Ci z1).2
      ·obtain ⟨⟨o,q⟩,_⟩:=sB.Ci z1
       rw [s2 _ _ q]
       intro z
       cases z
    ·-- the slots of the block alone were stored
     have wl:∀ vs':List Nat,(∀ i∈S,i∈vs')→wipe σ4 vs'=wipe (wipe σ vs) vs':=fun vs' hv=>by
      apply List.ext_getElem?
      intro j
      by_cases hj:j∈vs'
      ·have n1:∀ τ:L2.St,j < τ.length→(wipe τ vs')[j]? = some none:=fun τ hjl=>wipe_mem hj hjl
       by_cases hl:j < σ4.length
       ·rw [n1 _ hl,n1 _ (by rw [← o4.1]; exact hl)]
       ·rw [List.getElem?_eq_none (by rw [wipe_length]; omega),List.getElem?_eq_none (by rw [wipe_length,← o4.1]; omega)]
      ·rw [EF hj,EF hj]
       exact (o4.2 j fun z=>hj (hv j z)).1
     rw [wl vs hS,wipe_idem]
    ·refine ht _ _ _ _ _ _ _ s4 ?_
     cases et:t ρ1 with
     | exc x'=>rw [et] at e; cases e
     | bad=>rw [et] at e; cases e
     | ok b=>
      rw [et] at e
      simp only [Cf,Out.AA] at e
      intro H4 s5
      cases b with
      | false=>
       simp only [Bool.false_eq_true,if_false] at e ⊢
       exact ⟨(s2.trans s3).trans s5,done,todo,acc,s5 _ _ hacc3,by omega,e,hres,(racc.same s3).same s5⟩
      | true=>
       simp only [if_true] at e ⊢
       refine he _ _ _ _ _ _ _ (s4.grow s5) ?_
       cases ef:f ρ1 with
       | exc x'=>rw [ef] at e; cases e
       | bad=>rw [ef] at e; cases e
       | ok y=>
        rw [ef] at e
        simp only [Cf,Out.AA] at e
        cases er:OF u t f (BJ (frz lk ρ) vs) (ds.drop (i + 1)) with
        | exc x'=>rw [er] at e; cases e
        | bad=>rw [er] at e; cases e
        | ok r=>
         rw [er] at e
         have ey:y :: r=todo:=by
          have e':(Out.ok (y :: r):Out (List Dt))=.ok todo:=e
          injection e'
         intro v5 H5 s6 r5
         have hD5:=s6 _ _ (s5 _ _ hacc3)
         refine ⟨acc,hD5,by rw [sizeLine_eq]; omega,fun a o q=>?_,done ++ [y],r,acc ++ [v5],upd_same,by rw [List.length_append,List.length_singleton]; omega,rfl,?_,?_⟩
         ·rw [upd_ne (ne_of_none q hD)]
          exact s6 _ _ (s5 _ _ (s3 _ _ (s2 _ _ q)))
         ·rw [List.append_assoc]
          show done ++ (y :: r)=res
          rw [ey]
          exact hres
         ·have keep:∀ a o,¬ (Av ⟨K,μ⟩ A0 ρ σ (lk ++ (le ++ vs)) a∨a=D)→H5 a=some o→upd H5 D (.lst (acc ++ [v5])) a=some o:=fun a o n q=>by
           rw [upd_ne fun z=>n (.inr z)]
           exact q
          refine Ah.mono keep (fun a z=>z) _ _ (Ah.append (((racc.same s3).same s5).same s6) (Ah.cons (r5.BZ fun a z=>?_) Ah.nil))
          rcases z with z | z
          ·rcases avs a z with z | ⟨j,n,l,e1,ho⟩
           ·exact .inl (.inl z)
           ·have nv:j∉vs:=fun q=>n (List.mem_append_right _ q)
            have nS:j∉S:=fun q=>nv (hS j q)
            refine .inr ⟨j,fun q=>n (List.mem_append_left _ q),l,?_,?_⟩
            ·rw [(o4.2 j nS).2,Ku nv]
             exact e1
            ·rw [(o4.2 j nS).1,EF nv]
             exact ho
          ·exact .inl (.inr z)
  ·have e1:i=ds.length:=by omega
   subst e1
   rw [List.drop_length] at e
   have et:todo=[]:=by
    have e':(Out.ok []:Out (List Dt))=.ok todo:=e
    injection e' with e'
    exact e'.symm
   subst et
   rw [List.append_nil] at hres
   subst hres
   refine .inl ⟨w.stop H2 sBW,?_⟩
   exact h1 D acc H2 (s1.trans s2) (s1.free hD) hacc racc
where
 frz_ne {lk:List Nat} {ρ:Env} {i:Nat} {l:Lo} (hn:i∉lk) (e:ρ[i]? = some (some l)):(frz lk ρ)[i]? = some (some l):=by
  induction lk generalizing ρ with
  | nil=>exact e
  | cons j lk ih=>
   rw [HK]
   refine ih (fun q=>hn (List.mem_cons_of_mem _ q)) ?_
   unfold FD.LR
   split
   ·rw [List.getElem?_set_ne fun z=>hn (by rw [z]; exact List.mem_cons_self)]
    exact e
   ·rw [List.getElem?_set_ne fun z=>hn (by rw [z]; exact List.mem_cons_self)]
    exact e
   ·exact e
 wipe_mem {τ:L2.St} {j:Nat} {vs:List Nat} (h:j∈vs) (hl:j < τ.length):(wipe τ vs)[j]? = some none:=by
  induction vs with
  | nil=>cases h
  | cons v vs ih=>
   unfold wipe
   by_cases e:v=j
   ·subst e
    rw [List.getElem?_set_self (by rw [wipe_length]; exact hl)]
   ·rw [List.getElem?_set_ne e]
    rcases List.mem_cons.mp h with z | z
    ·exact absurd z.symm e
    ·exact ih z
 wipe_idem {τ:L2.St} {vs:List Nat}:wipe (wipe τ vs) vs=wipe τ vs:=by
  apply List.ext_getElem?
  intro j
  by_cases hj:j∈vs
  ·by_cases hl:j < τ.length
   ·rw [wipe_mem hj (by rw [wipe_length]; exact hl),wipe_mem hj hl]
   ·rw [List.getElem?_eq_none (by rw [wipe_length,wipe_length]; omega),List.getElem?_eq_none (by rw [wipe_length]; omega)]
  ·rw [EF hj,EF hj]
end
end FD
namespace PySem.FX
open PySem PySem.W PySem.Calls PyProof.Rows PySem.Spec
abbrev exO(C t:Addr)(dv:Option Addr):Obj:={ cls:=.ref C,dict:=dv,data:=.fields #[.ref t,.none,.none,.none,.bool false,.none] }
structure XTxt (prog:Program) (K:Frag) (mg:Str→Option Value) (C fI cc cda:Addr) (qual:Str) (params:Arguments) (body:List Stmt) (scope:Scope):Prop where
 cls:∃ nm q N bs bm sn sub ab col dd k0 k1 k2 k3 k5,K.lookup C=some (excClassObj nm q C N bs bm true sn sub ab col dd k0 k1 k2 k3 k5 "ValueError.__new__")∧HandSPX.refsVE bm=true
 sa:findIn K (.ref C) "__setattr__" = some (some (.builtin "object.__setattr__"))
 iC:findIn K (.ref C) "__init__" = some (some (.ref fI))
 tI:typeIn K (.ref fI)=some (.type "function")
 kC:keepIn K (.ref C)=true
 exC:subIn K (.ref C) (.type "BaseException")=some true
 exVE:subIn K (.ref C) (.type "ValueError")=some true
 tyC:typeIn K (.ref C)=some (.type "type")
 sub:mroIn K C (.ref C)=some true
 supI:ks_superIn K C C "__init__" = some (some (.builtin "ValueError.__init__"))
 any:nsIn K cStatics "thirdparty.any" = some none
 mgS:mg "super" = none
 cell:∃ cl cld csl,K.lookup cc=some ⟨cl,cld,.cell (some (.ref C)),csl⟩
 code:∃ ccl cdd vs ccs f tf,K.lookup cda=some ⟨ccl,cdd,.fields vs,ccs⟩∧vs[2]? = some (.str f tf)∧((prog.main.file:Str) == f)=true
 top:(prog.main.scope.names.lookup ("super" : Str)).isSome=false
 fn:∃ (oc:Value) (od:Option Addr) (kV doc pm:Value) (an:Option Addr) (ct:Value) (osl:Array (Option Value)),K.lookup fI=some ⟨oc,od,.func (ksFn "__init__" qual params body scope .none kV doc pm an (.ref cda) ct cc),osl⟩∧codeIn K (.ref cda) qual=true
section
variable {prog:Program} {w:World} {A:Around} {E:Value→Shared→Prop} {s:Shared} {K:Frag} {mg:Str→Option Value} {C fI cc cda:Addr} {qual:Str} {params:Arguments} {body:List Stmt} {scope:Scope}
structure XEnd (h h':Heap) (x C t1:Addr) (dv:Option Addr) (mA:Str→Option Value):Prop where
 keep:∀ b o,b≠x→h.get? b=some o→h'.get? b=some o
 obj:h'.get? x=some (exO C t1 dv)
 dct:∀ dx,dv=some dx→h.objs.size≤dx∧dx≠x∧h'.Ns1 dx mA
structure XForm (env:PySem.Env) (p0 p1 p2 p3 p4:Pos) (msg:PySem.Expr):Prop where
 st:starEach [msg] env=[(false,eval msg env)]
 sw:swapsWith (.Call (.Attribute (.Call (.Name "super" p0) [] [] p1) "__init__" p2) [msg] [] p3) none p4.line env=pure false
 ev:∃ pl:Sem Bool,eval (.Call (.Attribute (.Call (.Name "super" p0) [] [] p1) "__init__" p2) [msg] [] p3) env=(do
   let ov ← attributeBase (.Call (.Name "super" p0) [] [] p1) "__init__" env (eval (.Call (.Name "super" p0) [] [] p1) env)
   standAt p2.atName
   let (f,first) ← holding [ov] (getMethod ov "__init__" pl)
   callWith p3 f first (backTo p3 (starEach [msg] env)) [])
variable {R:Result→Shared→Prop} {base:Heap}
end
end PySem.FX
namespace PySem.FX
open PySem PySem.W PySem.Calls PyProof.Rows PySem.Spec
section
variable {prog:Program} {w:World} {A:Around} {E:Value→Shared→Prop} {s:Shared} {K:Frag} {mg:Str→Option Value} {C fI cc cda:Addr} {qual:Str} {params:Arguments} {body:List Stmt} {scope:Scope}
variable {R:Result→Shared→Prop} {base:Heap}
structure XNew (h h':Heap) (e C:Addr) (dv:Option Addr) (fv:List (Str × Value)):Prop where
 keep:∀ b o,h.get? b=some o→h'.get? b=some o
 new:h.objs.size≤e
 obj:∃ oe vs,h'.get? e=some oe∧oe.cls=.ref C∧oe.dict=dv∧oe.data=.fields vs∧vs[1]? = some .none∧vs[2]? = some .none
 none':dv=none→fv=[]
 dct:∀ d,dv=some d→h.objs.size≤d∧d≠e∧h'.Ns1 d (fun y=>fv.lookup y)
def XMk(prog:Program)(w:World)(K:Frag)(mg:Str→Option Value)(base:Heap)(C:Addr)(fs:List Str)(ok:List L2.V→Prop):Prop:=
 ∀ (A:Around) (R:Result→Shared→Prop) (s:Shared) (vs:List L2.V) (us:List Value),L2.Vals vs us→vs.length=fs.length→ok vs→(∀ b o,base.get? b=some o→s.heap.get? b=some o)→L2.Mod K mg base→s.heap.NoLimit→A.depth + 1 < recursionLimit →
  (∀ h' tk e dv,XNew s.heap h' e C dv (fs.zip us)→(dv=none ↔ fs=[])→R (.ok (.ret (.ref e))) { s with heap:=h',toks:=tk })→codeAny (model prog w) A (.call (.ref C) ⟨us,[]⟩) R s
end
end PySem.FX
namespace PySem.FX
open PySem PySem.W PySem.Calls PyProof.Rows PySem.Spec
section
variable {prog:Program} {w:World} {env:PySem.Env} {m:Str→Option Value}
end
end PySem.FX
namespace L2
open PySem PySem.Spec PyProof.Rows
section
variable {X:Cx} {C:Addr} {fs:List Str} {ok:List V→Prop}
structure MkC (X:Cx) (x:Str) (C:Addr) (fs:List Str) (ok:List V→Prop):Prop where
 mkc:PySem.FX.XMk X.prog X.w X.K X.mg X.base C fs ok
 gC:X.mg x=some (.ref C)
 kC:PySem.W.keepIn X.K (.ref C)=true
 exC:PySem.W.subIn X.K (.ref C) (.type "BaseException")=some true
 tyC:PySem.W.typeIn X.K (.ref C)=some (.type "type")
end
end L2
namespace L2
open PySem PyProof.Rows PySem.Spec
end L2
namespace FD
open PySem L2 PyProof.Rows PySem.Spec
def LB(K:PySem.W.Frag)(μ:Mu)(A:Ad)(H:Hp)(Q:VK)(E:XK)(o:Out Dt):Prop:=match o with
 | .ok d=>∀ v H',Same H H'→Rep ⟨K,μ⟩ H' A d v→Q v H'
 | .exc x=>∀ c od H',Same H H'→Qu K H' x c od→E c od H'
 | .bad=>False
def OI(K:PySem.W.Frag)(φ:List Dt→Out Dt):Sp:=fun vs H Q E=>∃ (ds:List Dt) (A:Ad) (μ:Mu),Ah ⟨K,μ⟩ H A ds vs∧(∀ a,A a→Mut (H a))∧LB K μ A H Q E (φ ds)
def Ct(n:Nat)(φ:List Dt→Out Dt)(ds:List Dt):Out Dt:=if ds.length=n then φ ds else .bad
structure ClR (P:Program) (w:World) (K:PySem.W.Frag) (mg:Str→Option Value) (base:Heap) (x:Str) (k:Nat) (φ:List Dt→Out Dt):Prop where
 ex:∃ (f:Addr),FnR P w K mg base (L2N.CX P w) k f (OI K φ)∧mg x=some (.ref f)∧PySem.W.keepIn K (.ref f)=true
section
variable {P:Program} {w:World} {K:PySem.W.Frag} {mg:Str→Option Value} {base:Heap} {H:Hp} {A:Ad}
theorem B7{x:Str}{f:Addr}{fd:FuncData}{ps:List Str}{k n:Nat}{φ:List Dt→Out Dt}(F:FnOk P w K mg base (L2N.CX P w) k f fd ps (DA K n φ))(hm:mg x=some (.ref f))(hk:PySem.W.keepIn K (.ref f)=true)(hb:Binds K fd ps []):ClR P w K mg base x k (Ct n φ):=by
 refine ⟨f,FnR.imp (F.raw hb .nil) (fun vs H Q E h=>?_),hm,hk⟩
 obtain ⟨ds,A,μ,r,ha,h⟩:=h
 unfold Ct at h
 by_cases hl:ds.length=n
 ·rw [if_pos hl] at h
  exact ⟨ds,A,μ,by rw [List.append_nil]; exact r,hl,ha,h⟩
 ·rw [if_neg hl] at h
  exact False.elim h
end
section
variable {X:Cx} {W:WX} {e:Expr} {es:List Expr} {fs:Env→Out (List Dt)} {fe:Env→Out Dt} {lk:List Nat} {p pos sps:Pos} {φ:List Dt→Out Dt}
def Aj(φ:List Dt→Out Dt)(f:Env→Out (List Dt)):Env→Out Dt:=fun ρ=>(f ρ).bind φ
def aH(sp:Sp)(E:L2.St→XK)(t:TA):TE:=fun σ H Q=>t σ H fun vs H1=>sp vs H1 Q (E σ)
theorem YY{K:PySem.W.Frag}{ta:TA}(ha:Ub K W ta fs lk):D3 K W (aH (OI K φ) (WE W) ta) (Aj φ fs) lk:=by
 intro μ H0 A0 ρ σ H Q s h
 refine ha _ _ _ _ _ _ _ s (h.seq fun ds _ h1 vs H1 s1 r1=>?_)
 refine ⟨ds,Av ⟨K,μ⟩ A0 ρ σ lk,μ,r1,fun a z=>(s.grow s1).Ec z,?_⟩
 unfold LB
 cases eo:φ ds with
 | ok d=>rw [eo] at h1; exact fun v H' s' r=>h1 v H' (s1.trans s') r
 | exc x=>rw [eo] at h1; exact fun c od H' s' r=>h1 c od H' (s1.trans s') r
 | bad=>rw [eo] at h1; exact h1
theorem IQ{CX:CXT}{k:Nat}{f:Addr}{sp:Sp}{E:L2.St→XK}{Q:VK}{pins:List (Addr × Obj)}{σ:L2.St}{H:Hp}{s:Shared}{us:List Value}{vs:List V}(F:FnR X.prog X.w X.K X.mg X.base CX k f sp)(hr:Room k X.A)(hx:PassesAt CX X σ (E σ))(I:Inv X pins σ H s)(r:Vals vs us)(h:sp vs H Q (E σ)):
  wpAny (model X.prog X.w) X.A (call (.ref f) us) (EP X pins σ Q) X.xe s:=by
 refine wpAny_call (codeAny_mono (F X.A X.stack s H us vs Q (E σ) hr I.env0 r h) fun r s' hq=>?_)
 cases r with
 | error e=>exact hx pins H s e s' I hq
 | ok fl=>
  cases fl with
  | ret u=>exact I.after hq
  | next=>exact False.elim hq
  | brk=>exact False.elim hq
  | cont=>exact False.elim hq
theorem Aq{x:Str}{k j:Nat}(c:ClR X.prog X.w X.K X.mg X.base x k φ)(tk:L2N.Takes X W)(hr:Room j X.A)(hk:k≤j)(hg:Gl X x)(ha:JN X W (e :: es) fs lk)(hdb:(x == ("__debug__" : Str))=false:=by decide)
  (he:starEach (e :: es) X.env=(false,eval e X.env) :: starEach es X.env:=by rfl) (hpl:(backTo pos (starEach es X.env)).any (·.1)=false:=by rfl):Bv X W (.Call (.Name x p) (e :: es) [] pos) (Aj φ fs) lk:=by
 obtain ⟨f,F,hm,kp⟩:=c.ex
 obtain ⟨ta,pa,da⟩:=ha
 refine ⟨_,⟨fun pins s σ H Q I h=>?_⟩,YY da⟩
 refine wpAny_Call_Name_kw (ld_glob I hg hm ?_ hdb)
 refine PySem.W.callWith_K (h₀:=X.base) I.ok.mod.kin kp (thn (pa.run pos pins s σ H _ I h) fun us s1 ⟨vs,H1,I1,r,q⟩=>⟨I1.kIn,?_⟩) he hpl
 exact IQ F (hr.mono hk) (L2N.passAt tk σ) I1 r q
end
section
variable {K:PySem.W.Frag} {κ:KM} {μ:Mu} {W:WX} {H0 H H1:Hp} {A0:Ad} {ρ:Env} {σ:L2.St} {lk la lb:List Nat} {α:Type}
end
section
variable {X:Cx} {W:WX} {e:Expr} {es:List Expr} {fs:Env→Out (List Dt)} {lk:List Nat} {p pos pos2:Pos} {C:Addr} {fns:List Str} {g:List Dt→Bool} {ok:List V→Prop}
end
def cS(K:PySem.W.Frag)(W:WX)(g:Env→SOut):TS:=fun D σ H=>∃ (μ:Mu) (H0:Hp) (A0:Ad) (ρ:Env),StOk ⟨K,μ⟩ H0 A0 H ρ σ∧A9 K W μ H0 A0 (g ρ) D
theorem JM.NC{X:Cx}{W:WX}{ss:List Stmt}{g:Env→SOut}(h:JM X W ss g):PSs X ss (cS X.K W g):=by
 obtain ⟨ts,hp,hd⟩:=h
 exact ⟨fun pins s σ H D I ⟨μ,H0,A0,ρ,so,po⟩=>hp.run pins s σ H D I (hd μ H0 A0 ρ σ H D so po)⟩
open Classical in
section
variable {K:PySem.W.Frag} {κ:KM} {μ:Mu} {W:WX} {H0 H H1:Hp} {A0:Ad} {ρ:Env} {σ:L2.St} {lk la lb:List Nat}
end
section
variable {X:Cx} {W:WX} {x n:Str} {c:Value} {i:Nat} {body suite:List Stmt} {b₀:Stmt} {np pos pos':Pos} {g:Env→SOut}
end
theorem takes0{X:Cx}:L2N.Takes X W0:=fun _ _ ⟨_,_,_,_,_,_,_,_,_,_,_,_,_,_,_,_,w⟩=>False.elim w
section
variable {K:PySem.W.Frag} {κ:KM} {μ:Mu} {W:WX} {H0 H H1:Hp} {A0 A:Ad} {ρ:Env} {σ:L2.St} {lk la lb:List Nat}
theorem P9{f:Str}{d:Dt}:∀ {fs:List (Str × V)} {ds:List Dt},Ah κ H A ds (fs.map (·.2))→((fs.map (·.1)).zip ds).lookup f=some d→∃ v,fs.lookup f=some v∧Rep κ H A d v
 | [],ds,r,e=>by cases e
 | (g,v) :: fs,[],r,e=>by cases e
 | (g,v) :: fs,d' :: ds,r,e=>by
  unfold Ah at r
  obtain ⟨v',r',e1,r1,r2⟩:=r
  cases e1
  have e2:List.lookup f ((g,d') :: (fs.map (·.1)).zip ds)=some d:=e
  rw [List.lookup] at e2 ⊢
  cases hb:f == g with
  | true=>
   rw [hb] at e2
   cases e2
   exact ⟨_,rfl,r1⟩
  | false=>
   rw [hb] at e2
   exact P9 r2 e2
end
section
variable {X:Cx} {W:WX} {e e2:Expr} {fs:Env→Out (List Dt)} {fe:Env→Out Dt} {lk:List Nat} {pos p:Pos} {a D:Addr} {oe:Obj} {d:Option Addr} {pn:List (Addr × Obj)}
end
end FD
namespace FD
open PySem L2 PyProof.Rows PySem.Spec
def cE(K:PySem.W.Frag)(W:WX)(f:Env→Out Dt)(lk:List Nat):TE:=fun σ H Q=>∃ (μ:Mu) (H0:Hp) (A0:Ad) (ρ:Env),StOk ⟨K,μ⟩ H0 A0 H ρ σ∧DY K W H σ (f ρ) (RE ⟨K,μ⟩ (Av ⟨K,μ⟩ A0 ρ σ lk) H Q)
def cT(K:PySem.W.Frag)(W:WX)(f:Env→Out Bool):TT:=fun σ H Q=>∃ (μ:Mu) (H0:Hp) (A0:Ad) (ρ:Env),StOk ⟨K,μ⟩ H0 A0 H ρ σ∧DY K W H σ (f ρ) (RT H Q)
def cG(K:PySem.W.Frag)(u:Dt→Env→Option Env)(S:List Nat):TG:=fun v σ H Q=>∃ (μ:Mu) (H0:Hp) (A0:Ad) (ρ ρ':Env) (d:Dt),StOk ⟨K,μ⟩ H0 A0 H ρ σ∧Rep ⟨K,μ⟩ H (Av ⟨K,μ⟩ A0 ρ σ []) d v∧u d ρ=some ρ'∧(∀ σ',StOk ⟨K,μ⟩ H0 A0 H ρ' σ'→(∀ a,Av ⟨K,μ⟩ A0 ρ' σ' [] a→Av ⟨K,μ⟩ A0 ρ σ [] a)→fM S ρ ρ' σ σ'→Q σ' H)
def Q9(X:Cx)(W:WX)(es:List Expr)(f:Env→Out Bool)(lk:List Nat):Prop:=∃ tt,PTs X es tt∧TY X.K W tt f lk
section
variable {X:Cx} {W:WX} {e:Expr} {es:List Expr} {f:Env→Out Dt} {t:Env→Out Bool} {u:Dt→Env→Option Env} {S lk lt le:List Nat}
theorem Bv.NC(h:Bv X W e f lk):PE X e (cE X.K W f lk):=by
 obtain ⟨te,pe,de⟩:=h
 exact ⟨fun pins s σ H Q I ⟨μ,H0,A0,ρ,so,po⟩=>pe.run pins s σ H Q I (de μ H0 A0 ρ σ H Q so po)⟩
theorem Q9.NC(h:Q9 X W es t lk):PTs X es (cT X.K W t):=by
 obtain ⟨te,pe,de⟩:=h
 exact ⟨fun pins s σ H Q I ⟨μ,H0,A0,ρ,so,po⟩=>pe.run pins s σ H Q I (de μ H0 A0 ρ σ H Q so po)⟩
theorem Wt.NC(h:Wt X e u S):PG X e (cG X.K u S):=by
 obtain ⟨g,pg,dg⟩:=h
 refine ⟨fun pins s σ H v u' Q I r ⟨μ,H0,A0,ρ,ρ',d,so,rr,eu,q⟩=>?_⟩
 exact pg.run pins s σ H v u' Q I r (dg μ H0 A0 ρ ρ' σ H d v Q so rr eu q)
def AI:Env→Out Bool:=fun _=>.ok true
theorem CL:Q9 X W [] AI []:=⟨_,pts_nil,fun μ H0 A0 ρ σ H Q s h=>h H (Same.refl H)⟩
theorem bc(h:VP X W e t lk):Q9 X W [e] t lk:=by
 obtain ⟨te,pe,de⟩:=h
 exact ⟨_,pts_one pe,de⟩
theorem Hg{elt tg iter:Expr}{ifs:List Expr}{scope:Scope}{pos:Pos}{src:Env→Out (List Dt)}(own:List (Str × Nat))(hc:X.calm=true)(hN:X.N.Nodup)(hi:iM X W tg iter src lk)
  (hg:∀ (s:Shared) (H:Hp) (C:Addr) (cl:List (Str × Addr)) (fp:List Addr),Wt (X.blk s H scope (compEnvC scope cl C X.env) fp) tg u S)
  (ht:∀ (s:Shared) (H:Hp) (C:Addr) (cl:List (Str × Addr)) (fp:List Addr),Q9 (X.blk s H scope (compEnvC scope cl C X.env) fp) W0 ifs t lt)
  (he:∀ (s:Shared) (H:Hp) (C:Addr) (cl:List (Str × Addr)) (fp:List Addr),Bv (X.blk s H scope (compEnvC scope cl C X.env) fp) W0 elt f le)
  (ok:BlkOk X.N X.env.scope scope own:=by exact blkOk_by (by decide +kernel)) (hS:∀ i∈S,i∈own.map (·.2):=by decide) (hs:∀ x,foldedSetIterable iter X.env x=pure x:=by intro _; rfl):
  ZC X W (.ListComp elt [⟨tg,iter,ifs,0⟩] scope pos) (EA u (own.map (·.2)) t f src lk) (lk ++ (le ++ own.map (·.2))):=by
 obtain ⟨wi,pi,di⟩:=hi
 refine ⟨_,pe_lc (g:=cG X.K u S) (tt:=cT X.K W0 t) (te:=cE X.K W0 f le) hc hN pi ok (fun s H C cl fp=>(hg s H C cl fp).NC) (fun s H C cl fp=>(ht s H C cl fp).NC) (fun s H C cl fp=>(he s H C cl fp).NC) hs,?_⟩
 exact Jg di (fun μ H0 A0 ρ ρ' σ H d v Q s r e q=>⟨μ,H0,A0,ρ,ρ',d,s,r,e,q⟩) hS (lt:=lt) (fun μ H0 A0 ρ σ H Q s h=>⟨μ,H0,A0,ρ,s,h⟩) (fun μ H0 A0 ρ σ H Q s h=>⟨μ,H0,A0,ρ,s,h⟩)
theorem Tt{elt tg iter:Expr}{ifs:List Expr}{scope:Scope}{pos py spos:Pos}{src:Env→Out (List Dt)}{y:Str}(i:Nat)(own:List (Str × Nat))(hc:X.calm=true)(hN:X.N.Nodup)(hi:iM X W tg iter src lk)
  (hg:∀ (s:Shared) (H:Hp) (C:Addr) (cl:List (Str × Addr)) (fp:List Addr),Wt (X.blk s H scope (compEnvC scope cl C X.env) fp) tg u S)
  (ht:∀ (s:Shared) (H:Hp) (C:Addr) (cl:List (Str × Addr)) (fp:List Addr),Q9 (X.blk s H scope (compEnvC scope cl C X.env) fp) W0 ifs t lt)
  (he:∀ (s:Shared) (H:Hp) (C:Addr) (cl:List (Str × Addr)) (fp:List Addr),Bv (X.blk s H scope (compEnvC scope cl C X.env) fp) W0 elt f le)
  (hy:X.N[i]? = some y:=by rfl) (hyl:X.env.scope.names.lookup y=some .local:=by rfl) (hsw:swapsWith (.ListComp elt [⟨tg,iter,ifs,0⟩] scope pos) (some (.Name y py)) spos.line X.env=pure true:=by exact sw_true rfl rfl rfl rfl)
  (ok:BlkOk X.N X.env.scope scope own:=by exact blkOk_by (by decide +kernel)) (hS:∀ i∈S,i∈own.map (·.2):=by decide) (hs:∀ x,foldedSetIterable iter X.env x=pure x:=by intro _; rfl):
  Nq X W (.Assign [.Name y py] (.ListComp elt [⟨tg,iter,ifs,0⟩] scope pos) spos) (Hh i (EA u (own.map (·.2)) t f src lk) (lk ++ (le ++ own.map (·.2)))):=by
 obtain ⟨wi,pi,di⟩:=hi
 refine ⟨_,ps_setLc (g:=cG X.K u S) (tt:=cT X.K W0 t) (te:=cE X.K W0 f le) hc hN hy hyl hsw pi ok (fun s H C cl fp=>(hg s H C cl fp).NC) (fun s H C cl fp=>(ht s H C cl fp).NC) (fun s H C cl fp=>(he s H C cl fp).NC) hs,?_⟩
 exact VL (Jg di (fun μ H0 A0 ρ ρ' σ H d v Q s r e q=>⟨μ,H0,A0,ρ,ρ',d,s,r,e,q⟩) hS (lt:=lt) (fun μ H0 A0 ρ σ H Q s h=>⟨μ,H0,A0,ρ,s,h⟩) (fun μ H0 A0 ρ σ H Q s h=>⟨μ,H0,A0,ρ,s,h⟩))
end
end FD
namespace FD
open PySem L2 PyProof.Rows PySem.Spec
theorem aV:bootBuiltins "int" = some (.type "int"):=by first | rfl | kernel_rfl
theorem W3:bootBuiltins "bool" = some (.type "bool"):=by first | rfl | kernel_rfl
theorem bJ:bootBuiltins "str" = some (.type "str"):=by first | rfl | kernel_rfl
theorem Np:bootBuiltins "tuple" = some (.type "tuple"):=by first | rfl | kernel_rfl
theorem dS:bootBuiltins "dict" = some (.type "dict"):=by first | rfl | kernel_rfl
open PySem.W in
theorem iJ{K:PySem.W.Frag}{t:Value}{C:Addr}{b:Bool}(hne:(t == Value.ref C)=false)(h1:isClsIn K C=true)(h2:typeIn K (.ref C)=some (.type "type"))(h3:subIn K t (.ref C)=some b):kitOne K t (.ref C)=some b:=by
 unfold kitOne kitCls
 rw [hne,if_neg Bool.false_ne_true]
 have h1':(clsIn K C).isSome=true:=h1
 show (if ((clsIn K C).isSome && typeIn K (.ref C) == some (.type "type"))=true then subIn K t (.ref C) else none)=some b
 rw [h1',h2]
 exact h3
open PySem.W in
theorem UP{K:PySem.W.Frag}{t:Value}:kitOne K t t=some true:=by
 unfold kitOne
 rw [if_pos (beq_self_eq_true t)]
theorem Sk{k:Nat}{A:Around}(r:Room k A):A.units + 64 < cLine:=by have:=r.un; omega
section
variable {P:Program} {w:World} {K:PySem.W.Frag} {mg:Str→Option Value} {base:Heap}
theorem AL{x qual:Str}{params:Arguments}{body:List Stmt}{scope:Scope}{dvs:List V}{kws:List (Str × V)}{f:Addr}{fd:FuncData}{N ps:List Str}{k:Nat}{g:Env→SOut}(F:FunD K x qual params body scope dvs kws f fd)(S:FnScope N ps scope)
  (hb:∀ (cdv:Value) (A:Around) (outer:List PySem.Env) (s:Shared) (H:Hp) (E:XK),Room k (A.deeper (envOfC qual scope s.heap.objs.size f cdv)) →
   JM (cxOf (L2N.CX P w) P w K mg base N qual scope f cdv A outer s H E) (fun c d _ H'=>E c d H') body g):
  FnOk P w K mg base (L2N.CX P w) (k + 1) f fd ps (DA K ps.length (AB N.length g)):=by
 refine F.ok S (fun vs H Q E h=>?_) (fun cdv A outer s H vs Q E hr h=>?_)
 ·obtain ⟨ds,A,μ,r,hl,_⟩:=h
  rw [r.length,hl]
 ·obtain ⟨ds,A',μ,r,hl,ha,h⟩:=h
  obtain ⟨ts,hp,hd⟩:=hb cdv A outer s H E hr
  exact ⟨ts,hp,bQ hd r ha h _ (fun _ _ q=>q) (fun _ _ q=>q)⟩
theorem AG{x qual:Str}{params:Arguments}{body:List Stmt}{scope:Scope}{f:Addr}{fd:FuncData}{ps:List Str}(F:FunD K x qual params body scope [] [] f fd)
  (h:∀ (kV doc pm:Value) (an:Option Addr) (cdv ct:Value) (us:List Value),us.length=ps.length→bindArgs (PySem.W.fnOf x qual params body scope .none kV doc pm an cdv ct) ⟨us,[]⟩=pure (ps.zip us)):Binds K fd ps []:=by
 obtain ⟨oc,od,dV,kV,doc,pm,an,cdv,ct,osl,rfl,lk,hcd,hD,_⟩:=F.ex
 rcases hD with ⟨_,rfl⟩ | ⟨z,_⟩
 ·exact .all (h kV doc pm an cdv ct)
 ·exact absurd rfl z
theorem ints_rep{K:KM}{H:Hp}{A:Ad}:∀ ns:List Int,Ah K H A (ns.map .int) (ns.map V.int)
 | []=>Ah.nil
 | _ :: ns=>Ah.cons rfl (ints_rep ns)
def Sr(K:PySem.W.Frag):Sp:=fun vs H Q _=>∃ (a:Addr) (ns:List Int),vs=[.ref a]∧ns.length≤63∧(∀ z∈ns,Builtin.Int.intBits z≤1048576)∧Only H∧SqL K H a (ns.map V.int)∧∀ H',Q (.bl true) H'
theorem fT{k:Nat}{f:Addr}{fd:FuncData}{ps:List Str}{φ:List Dt→Out Dt}(F:FnOk P w K mg base (L2N.CX P w) k f fd ps (DA K 1 φ))(h:∀ ns:List Int,ns.length≤63→(∀ z∈ns,Builtin.Int.intBits z≤1048576)→φ [.fls (ns.map .int)]=.ok (.bl true)):
  FnOk P w K mg base (L2N.CX P w) k f fd ps (Sr K):=by
 refine F.imp fun vs H Q E hq=>?_
 obtain ⟨a,ns,rfl,hl,hb,hO,hS,q⟩:=hq
 refine ⟨[.fls (ns.map .int)],bX,⟨[],true⟩,Ah.cons ?_ Ah.nil,rfl,fun _ z=>False.elim z,?_⟩
 ·unfold Rep
  refine ⟨a,ns.map V.int,rfl,?_,ints_rep ns⟩
  rcases hS with (hS | ⟨o,hS⟩) | hS
  ·rcases hO a with e | ⟨o,xs,e⟩
   ·rw [e] at hS; cases hS
   ·rw [e] at hS; cases hS
  ·exact .inl ⟨fun z=>z,o,hS⟩
  ·exact .inr hS
 ·rw [h ns hl hb]
  intro v H' _ r
  have e:v=.bl true:=r
  subst e
  exact q H'
theorem fU{H:Hp}{s:Shared}{e:Value}{s':Shared}:L2N.CX P w [] H s (fun _ _ _=>False) e s'→False:=by
 rintro ⟨a,B,H',cls,d,ea,fl,hok,ub,na,os,ag,he⟩
 exact he
theorem a7{l:PySem.W.OpenLaw}{k:Nat}{q:Program}{loose:List Str}{XP:(Str→Option Value)→Heap→Prop}{YP:World→Heap→Prop}{d:DefRec}{K:Params→PySem.W.Frag}{x:Str}(hn:l.most=some 63)(hdf:d.params.defaults=[])(hr:Room k callerA)
  (hY:∀ (w:World) (h:Heap),YP w h→(K w.params).In h)
  (F:∀ (w:World) (mg:Str→Option Value) (fa:Addr) (h:Heap),(K w.params).In h→h.Ns mainGlobals mg→mg d.name=some (.ref fa) →
   ∃ fd:FuncData,(∀ (s:Shared) (u:Value),BindsTo s fd ⟨[u],[]⟩ [(x,u)])∧∀ base:Heap,(K w.params).In base→base.Ns mainGlobals mg→FnOk l.prog w (K w.params) mg base (L2N.CX l.prog w) k fa fd [x] (Sr (K w.params))):
  PySem.W.WalkO q loose XP YP l.row.toRowW d [] (fun f vs=>PySem.call f vs):=
 L2.walk_ofB (n:=63) (k:=k) (x:=x) (CX:=fun w=>L2N.CX l.prog w) (sp:=fun w=>Sr (K w.params)) hn (by decide) hdf hr hY F (fun _ _ a ns hl hb hO hS=>⟨a,ns,rfl,hl,hb,hO,hS,fun _=>rfl⟩) fun _ _ _ _ _ z=>fU z
end
end FD
namespace FD
open PySem L2
section
variable {f g:Env→SOut} {ρ:Env} {i:Nat} {lk:List Nat} {e fa fb fc:Env→Out Dt} {fl:Env→Out (List Dt)} {c ft fu:Env→Out Bool} {u:Dt→Env→Option Env}
theorem Ld:Ao f g ρ=(f ρ).andThen g:=rfl
theorem Ks:Ar ρ=.ok .nx ρ:=rfl
theorem O8:BR c f g ρ=IL (c ρ) ρ fun b=>if b=true then f ρ else g ρ:=rfl
theorem MT:B2 i e lk ρ=IL (e ρ) ρ fun d=>.ok .nx ((AQ d lk ρ).set i (some (.sh d))):=rfl
theorem Kj:Hh i fl lk ρ=IL (fl ρ) ρ fun ds=>.ok .nx ((U8 ds lk ρ).set i (some (.ol ds))):=rfl
theorem KD:JK e ρ=IL (e ρ) ρ fun _=>.ok .nx ρ:=rfl
theorem Lg:AE e lk ρ=IL (e ρ) ρ fun d=>.ok (.rt d) (AQ d lk ρ):=rfl
theorem BY:AW u fl lk g ρ=IL (fl ρ) ρ fun ds=>Bm u g ds (frz lk ρ):=rfl
theorem M9:aE u e lk ρ=IL (e ρ) ρ fun d=>match u d (AQ d lk ρ) with
 | some ρ'=>.ok .nx ρ'
 | none=>.bad:=rfl
theorem HP:Du i e lk ρ=match ρ[i]? with
 | some (some (.ol _))=>IL (e ρ) ρ fun d=>(match (AQ d lk ρ)[i]? with
  | some (some (.ol ds))=>if ds.length < 16777216 then .ok .nx ((AQ d lk ρ).set i (some (.ol (ds ++ [d])))) else .bad
  | _=>.bad)
 | _=>.bad:=rfl
theorem UM{d:Dt}:eC d ρ=.ok d:=rfl
theorem PM{d:Dt}:Aa 0 (some (.sh d) :: ρ)=.ok d:=rfl
theorem LU{d:List Dt}:Aa 0 (some (.ol d) :: ρ)=.ok (.lst d):=rfl
theorem Mo{k:List Key}{d:List Dt}:Aa 0 (some (.od k d) :: ρ)=.ok (.dic k d):=rfl
theorem Ql{l:Option Lo}:Aa (i + 1) (l :: ρ)=Aa i ρ:=rfl
theorem UH{gg:Dt→Option Dt}:e1 fa gg ρ=(fa ρ).bind fun a=>GI (gg a):=rfl
theorem Ve{gg:Dt→Dt→Option Dt}:e2 fa fb gg ρ=(fa ρ).bind fun a=>(fb ρ).bind fun b=>GI (gg a b):=rfl
theorem Of{gg:Dt→Option Bool}:t1 fa gg ρ=(fa ρ).bind fun a=>GI (gg a):=rfl
theorem U1{gg:Dt→Dt→Option Bool}:t2 fa fb gg ρ=(fa ρ).bind fun a=>(fb ρ).bind fun b=>GI (gg a b):=rfl
theorem UJ:eT ft ρ=(ft ρ).bind fun b=>.ok (.bl b):=rfl
theorem LX:IX ft fu ρ=(ft ρ).bind fun b=>if b=true then fu ρ else .ok false:=rfl
theorem QL:Cb ft fu ρ=(ft ρ).bind fun b=>if b=true then .ok true else fu ρ:=rfl
theorem MP:AM ft ρ=(ft ρ).bind fun b=>.ok (!b):=rfl
theorem MA:Ag ρ=.ok []:=rfl
theorem GR:Ab fa fl ρ=(fa ρ).bind fun d=>(fl ρ).bind fun ds=>.ok (d :: ds):=rfl
theorem Mv:GZ fl ρ=(fl ρ).bind fun ds=>if ds.length≤16777216 then .ok (.tup ds) else .bad:=rfl
theorem L5:Fx fl ρ=(fl ρ).bind fun ds=>if ds.length≤16777216 then .ok ds else .bad:=rfl
theorem Vp:eL fl ρ=(fl ρ).bind fun ds=>.ok (.lst ds):=rfl
theorem Vy{gg:List Dt→Option Dt}:eB gg fl ρ=(fl ρ).bind fun ds=>GI (gg ds):=rfl
theorem IU{φ:List Dt→Out Dt}:Aj φ fl ρ=(fl ρ).bind φ:=rfl
theorem Ni:OJ fa fb ρ=(fa ρ).bind fun a=>(GI (gV a)).bind fun b=>if b=true then fb ρ else .ok (.bl false):=rfl
theorem MX:hZ fa ρ=(fa ρ).bind fun a=>(GI (gV a)).bind fun b=>.ok (.bl (!b)):=rfl
theorem CB:AD fa ρ=(fa ρ).bind fun d=>GI d.seq:=rfl
theorem IP:Dr fl ρ=(fl ρ).bind fun ds=>GI (Zo ds):=rfl
theorem Km:Ik ρ=.ok none:=rfl
theorem Nn:M6 e ρ=(e ρ).bind fun d=>match d with
 | .int i=>.ok (some i)
 | _=>.bad:=rfl
theorem Ee{z:Int}:AQ (.int z) lk ρ=ρ:=rfl
theorem LY{z:Bool}:AQ (.bl z) lk ρ=ρ:=rfl
theorem J0{z:Str}:AQ (.str z) lk ρ=ρ:=rfl
theorem EO{ds:List Dt}:AQ (.lst ds) lk ρ=frz lk ρ:=rfl
theorem GV{d:Dt}:AQ d [] ρ=ρ:=by unfold AQ; split <;> rfl
theorem CA{d:Dt}(h:d.pure=true):AQ d lk ρ=ρ:=by unfold AQ; rw [if_pos (.inl h)]
def ZX:SOut→Out Dt
 | .ok .nx _=>.ok .non
 | .ok (.rt d) _=>.ok d
 | .exc x _=>.exc x
 | _=>.bad
@[simp] theorem Mz:ZX (.ok .nx ρ)=.ok .non:=rfl
@[simp] theorem MN{d:Dt}:ZX (.ok (.rt d) ρ)=.ok d:=rfl
theorem Lh{n:Nat}{ds:List Dt}:AB n g ds=ZX (g (ds.map (fun d=>some (Lo.sh d)) ++ List.replicate (n - ds.length) none)):=by
 unfold AB ZX
 rfl
end
theorem P5{d:Dt}{ρ:Env}:LR (some (.sh d) :: ρ) 0=some (.sh d) :: ρ:=rfl
theorem MQ{d:List Dt}{ρ:Env}:LR (some (.ol d) :: ρ) 0=some (.sh (.lst d)) :: ρ:=rfl
theorem MK{k:List Key}{d:List Dt}{ρ:Env}:LR (some (.od k d) :: ρ) 0=some (.sh (.dic k d)) :: ρ:=rfl
theorem Pa{l:Lo}{ρ:Env}:Nt (some l :: ρ) 0=l.ld:=rfl
theorem PH{l:Option Lo}{ρ:Env}{i:Nat}:Nt (l :: ρ) (i + 1)=Nt ρ i:=by
 unfold Nt
 rw [List.getElem?_cons_succ]
def G0(ρ:Env)(i:Nat):Bool:=match ρ[i]? with
 | some (some (.sh _))=>true
 | some (some _)=>false
 | _=>true
theorem Qv{d:Dt}{ρ:Env}:G0 (some (.sh d) :: ρ) 0=true:=rfl
theorem PZ{ρ:Env}:G0 (none :: ρ) 0=true:=rfl
theorem QH{l:Option Lo}{ρ:Env}{i:Nat}:G0 (l :: ρ) (i + 1)=G0 ρ i:=by
 unfold G0
 rw [List.getElem?_cons_succ]
theorem cH{ρ:Env}{i:Nat}(h:G0 ρ i=true):LR ρ i=ρ:=by
 unfold G0 at h
 unfold LR
 split at h
 ·rename_i d e
  rw [e]
  exact Dy e
 ·cases h
 ·rename_i h1 h2
  split
  ·rename_i cs e
   exact absurd e (h2 _)
  ·rename_i l e e2
   exact absurd e2 (h2 _)
  ·rfl
theorem Wk{ρ:Env}:∀ {lk:List Nat},lk.all (G0 ρ)=true→frz lk ρ=ρ
 | [],_=>rfl
 | i :: lk,h=>by
  rw [List.all_cons,Bool.and_eq_true] at h
  rw [HK,cH h.1]
  exact Wk h.2
theorem Ek{ρ:Env}{lk:List Nat}{d:Dt}(h:lk.all (G0 ρ)=true):AQ d lk ρ=ρ:=by
 unfold AQ
 split
 ·rfl
 ·exact Wk h
theorem Ji{ρ:Env}{lk:List Nat}{d:List Dt}(h:lk.all (G0 ρ)=true):U8 d lk ρ=ρ:=by
 unfold U8
 split
 ·rfl
 ·exact Wk h
theorem Lo.UK{d:Dt}:(Lo.sh d).ld=true:=rfl
theorem Q0{ρ:Env}:LR (none :: ρ) 0=none :: ρ:=rfl
theorem Pg{l:Option Lo}{ρ:Env}{i:Nat}:LR (l :: ρ) (i + 1)=l :: LR ρ i:=by
 unfold LR
 rw [List.getElem?_cons_succ]
 cases ρ[i]? with
 | none=>rfl
 | some x=>
  cases x with
  | none=>rfl
  | some l=>cases l <;> rfl
theorem HI{i:Nat}{d:Dt}{ρ:Env}:Ai i d ρ=some (ρ.set i (some (.sh d))):=rfl
theorem Me{us:List Dt→Env→Option Env}{ds:List Dt}{ρ:Env}:FC us (.tup ds) ρ=us ds ρ:=rfl
theorem Kt{u:Dt→Env→Option Env}{us:List Dt→Env→Option Env}{d:Dt}{ds:List Dt}{ρ:Env}:AY u us (d :: ds) ρ=(u d ρ).bind fun ρ'=>us ds ρ':=rfl
theorem L1{ρ:Env}:Fc [] ρ=some ρ:=rfl
def Xv(u:Dt→Env→Option Env)(b:Env→SOut)(ds:List Dt):SOut→SOut
 | .ok .nx ρ=>Bm u b ds ρ
 | .ok .ct ρ=>Bm u b ds ρ
 | .ok .bk ρ=>.ok .nx ρ
 | o=>o
@[simp] theorem My{u:Dt→Env→Option Env}{b:Env→SOut}{ds:List Dt}{ρ:Env}:Xv u b ds (.ok .nx ρ)=Bm u b ds ρ:=rfl
@[simp] theorem MU{u:Dt→Env→Option Env}{b:Env→SOut}{ds:List Dt}{ρ:Env}{d:Dt}:Xv u b ds (.ok (.rt d) ρ)=.ok (.rt d) ρ:=rfl
theorem G6{u:Dt→Env→Option Env}{b:Env→SOut}{d:Dt}{ds:List Dt}{ρ ρ1:Env}(h:u d ρ=some ρ1):Bm u b (d :: ds) ρ=Xv u b ds (b ρ1):=by
 rw [NK,h]
 show (match b ρ1 with
   | .ok .nx ρ'=>Bm u b ds ρ'
   | .ok .ct ρ'=>Bm u b ds ρ'
   | .ok .bk ρ'=>.ok .nx ρ'
   | o=>o)=_
 cases b ρ1 with
 | ok f ρ'=>cases f <;> rfl
 | exc x ρ'=>rfl
 | bad=>rfl
theorem BX{i:Nat}{b:Env→SOut}{d:Dt}{ds:List Dt}{ρ:Env}:Bm (Ai i) b (d :: ds) ρ=Xv (Ai i) b ds (b (ρ.set i (some (.sh d)))):=G6 rfl
theorem O2{α β:Type}(f:α→β)(xs:List α)(i:Int):atI (xs.map f) i=(atI xs i).map f:=by
 unfold atI
 rw [List.length_map]
 cases ixN xs.length i with
 | none=>rfl
 | some j=>exact List.getElem?_map
theorem P0{α:Type}{xs:List α}{i:Int}(h0:0≤i)(h1:i < xs.length):∃ x,atI xs i=some x∧xs[i.toNat]? = some x:=by
 have hj:i.toNat < xs.length:=by omega
 refine ⟨xs[i.toNat],?_,List.getElem?_eq_getElem hj⟩
 unfold atI ixN
 rw [if_pos h0,if_pos h1]
 exact List.getElem?_eq_getElem hj
theorem atI_nat{α:Type}(xs:List α)(n:Nat):atI xs (n:Int)=xs[n]?:=by
 unfold atI ixN
 rw [if_pos (by omega)]
 by_cases h:n < xs.length
 ·rw [if_pos (by omega)]
  rfl
 ·rw [if_neg (by omega),List.getElem?_eq_none (by omega)]
  rfl
theorem Uj{α:Type}(a:α)(xs:List α):atI (a :: xs) 0=some a:=atI_nat (a :: xs) 0
theorem UL{α:Type}(a b:α)(xs:List α):atI (a :: b :: xs) 1=some b:=atI_nat (a :: b :: xs) 1
theorem VF{α:Type}(a b c:α)(xs:List α):atI (a :: b :: c :: xs) 2=some c:=atI_nat (a :: b :: c :: xs) 2
theorem bI{α:Type}(f:α→Dt)(xs:List α)(lo hi:Option Int):∃ ys:List α,cutD (xs.map f) lo hi=ys.map f:=by
 unfold cutD
 refine ⟨(xs.drop (HT.sIx xs.length 0 lo)).take (HT.sIx xs.length xs.length hi - HT.sIx xs.length 0 lo),?_⟩
 rw [List.length_map,List.map_take,List.map_drop]
def Bd(n:Nat)(i:Int):Prop:=i.natAbs < 2 ^ n
theorem Bd.mono{m n:Nat}{i:Int}(h:Bd m i)(hm:m≤n):Bd n i:=Nat.lt_of_lt_of_le h (Nat.pow_le_pow_right (by decide) hm)
theorem Bd.add{m n:Nat}{i j:Int}(h:Bd m i)(k:Bd n j):Bd (max m n + 1) (i + j):=by
 have h1:i.natAbs < 2 ^ max m n:=h.mono (Nat.le_max_left _ _)
 have k1:j.natAbs < 2 ^ max m n:=k.mono (Nat.le_max_right _ _)
 unfold Bd
 rw [Nat.pow_succ]
 have:=Int.natAbs_add_le i j
 omega
theorem Bd.neg{n:Nat}{i:Int}(h:Bd n i):Bd n (-i):=by
 unfold Bd
 rw [Int.natAbs_neg]
 exact h
theorem Bd.sub{m n:Nat}{i j:Int}(h:Bd m i)(k:Bd n j):Bd (max m n + 1) (i - j):=by
 rw [Int.sub_eq_add_neg]
 exact h.add k.neg
theorem Bd.le{n:Nat}{i j:Int}(h:Bd n i)(k:j.natAbs≤i.natAbs):Bd n j:=Nat.lt_of_le_of_lt k h
end FD
namespace FD
open PySem L2 PyProof.Rows PySem.Spec
section
variable {K:PySem.W.Frag} {W:WX} {H0 H H1:Hp} {A A0:Ad} {ρ:Env} {σ:L2.St} {lk la lb:List Nat}
end
def Dt.Z5:Dt→Option (List Dt)
 | .lst ds=>some ds
 | .fls ds=>some ds
 | .tup ds=>some ds
 | _=>none
section
variable {X:Cx} {W:WX} {o e:Expr} {f fb:Env→Out Dt} {la lb:List Nat} {apos pos:Pos}
end
end FD
namespace FD
open PySem L2 PyProof.Rows PySem.Spec
section
variable {X:Cx} {W:WX} {a b e iter tg:Expr} {f fa fb:Env→Out Dt} {fs:Env→Out (List Dt)} {la lb lk:List Nat} {pos p p2:Pos} {lo hi:Option Expr} {fl fh:Env→Out (Option Int)} {es:List Expr}
def Ll:List Dt→Option Dt
 | [.int i]=>if i.natAbs.log2 < 1920 then some (.str (toString i:String)) else none
 | [.str a]=>some (.str a)
 | _=>none
@[simp] theorem af(i:Int):Ll [.int i]=if i.natAbs.log2 < 1920 then some (.str (toString i:String)) else none:=rfl
theorem CallR.or{c:Value}{r r':List V→Hp→VK→Prop}(h:CallR X c r)(h':CallR X c r'):CallR X c (fun xs H Q=>r xs H Q∨r' xs H Q):=fun pins s σ H xs us Q I rr q=>q.elim (h pins s σ H xs us Q I rr) (h' pins s σ H xs us Q I rr)
theorem Yp:∀ ds d,Ll ds=some d→d.scal=true:=fun ds d e=>by
 unfold Ll at e
 split at e
 ·obtain ⟨_,rfl⟩:=Bq e; rfl
 ·cases e; rfl
 ·cases e
theorem X9(hg:Gl X "str")(hm:X.mg "str" = none)(ha:JN X W [e] fs lk)(he:starEach [e] X.env=(false,eval e X.env) :: starEach [] X.env:=by rfl):Bv X W (.Call (.Name "str" p) [e] [] pos) (eB Ll fs) []:=by
 obtain ⟨ta,pa,da⟩:=ha
 refine ⟨_,pe_callTy (CallR.or call_str_int SkE.call_str_str) hg hm bJ pa (by decide) (by decide) he rfl,F4 (fun μ H A ds d vs Q _ r e q=>?_) Yp da⟩
 unfold Ll at e
 split at e
 ·obtain ⟨v,rfl,rr⟩:=Dg r
  obtain ⟨h,rfl⟩:=Bq e
  exact .inl ⟨_,congrArg (fun v=>[v]) rr,h,RE.now q rfl⟩
 ·obtain ⟨v,rfl,rr⟩:=Dg r
  cases e
  exact .inr ⟨_,congrArg (fun v=>[v]) rr,RE.now q rfl⟩
 ·cases e
def I0:List Dt→Option Dt
 | [.int i]=>some (.int i)
 | [.bl b]=>some (.int (if b then 1 else 0))
 | [.str a]=>if a.length≤640 then (PySem.intText? a).map fun n=>.int n else none
 | _=>none
@[simp] theorem I9(i:Int):I0 [.int i]=some (.int i):=rfl
theorem Pd:∀ ds d,I0 ds=some d→d.scal=true:=fun ds d e=>by
 unfold I0 at e
 split at e
 ·cases e; rfl
 ·cases e; rfl
 ·obtain ⟨_,e⟩:=Gp e
  obtain ⟨n,_,rfl⟩:=Option.map_eq_some_iff.mp e
  rfl
 ·cases e
where
 Gp {α:Type} {c:Prop} [Decidable c] {o:Option α} {x:α} (e:(if c then o else none)=some x):c∧o=some x:=by
  split at e
  ·exact ⟨by assumption,e⟩
  ·cases e
theorem Ip(hg:Gl X "int")(hm:X.mg "int" = none)(ha:JN X W [e] fs lk)(he:starEach [e] X.env=(false,eval e X.env) :: starEach [] X.env:=by rfl):Bv X W (.Call (.Name "int" p) [e] [] pos) (eB I0 fs) []:=by
 obtain ⟨ta,pa,da⟩:=ha
 refine ⟨_,pe_callTy (CallR.or call_int1 call_int_str) hg hm aV pa (by decide) (by decide) he rfl,F4 (fun μ H A ds d vs Q _ r e q=>?_) Pd da⟩
 unfold I0 at e
 split at e
 ·obtain ⟨v,rfl,rr⟩:=Dg r
  cases e
  exact .inl (.inl ⟨_,congrArg (fun v=>[v]) rr,RE.now q rfl⟩)
 ·obtain ⟨v,rfl,rr⟩:=Dg r
  cases e
  exact .inl (.inr ⟨_,congrArg (fun v=>[v]) rr,RE.now q rfl⟩)
 ·obtain ⟨v,rfl,rr⟩:=Dg r
  obtain ⟨h,e⟩:=Pd.Gp e
  obtain ⟨n,hn,rfl⟩:=Option.map_eq_some_iff.mp e
  exact .inr ⟨_,n,congrArg (fun v=>[v]) rr,hn,h,RE.now q rfl⟩
 ·cases e
def W4(a:Dt)(lo hi:Option Int):Option Dt:=match a with
 | .lst ds=>some (.lst (cutD ds lo hi))
 | .fls ds=>some (.lst (cutD ds lo hi))
 | .str z=>if z.length≤16777216 then some (.str (Txt.slice z lo hi)) else none
 | _=>none
def Nx(f:Env→Out Dt)(fl fh:Env→Out (Option Int)):Env→Out Dt:=fun ρ=>(f ρ).bind fun a=>(fl ρ).bind fun lo=>(fh ρ).bind fun hi=>GI (W4 a lo hi)
theorem Tq(he:Bv X W e f la)(hl:POD X W lo fl)(hh:POD X W hi fh):Bv X W (.Subscript e (.Slice lo hi none p2) pos) (Nx f fl fh) la:=by
 obtain ⟨t,p,d⟩:=he
 obtain ⟨tl,pl,dl⟩:=hl
 obtain ⟨th,ph,dh⟩:=hh
 refine ⟨_,pe_slice (SlR.or sl_list C8.sl_txt) p pl ph,?_⟩
 intro μ H0 A0 ρ σ H Q s h
 refine d _ _ _ _ _ _ _ s (h.seq fun a _ h1 v H1 s1 r1=>?_)
 refine dl _ _ _ _ _ _ _ (s.grow s1) ((h1.grow s1).seq fun lo _ h2 H2 s2=>?_)
 refine dh _ _ _ _ _ _ _ (s.grow (s1.trans s2)) ((h2.grow s2).seq fun hi _ h3 H3 s3=>?_)
 obtain ⟨d',e,q⟩:=B6 h3
 have sA:=(s1.trans s2).trans s3
 have r3:=r1.same (s2.trans s3)
 have new:∀ {es:List Dt} {us:List V} {c:Addr},H3 c=none→Ah ⟨X.K,μ⟩ H3 (Av ⟨X.K,μ⟩ A0 ρ σ la) es us→Rep ⟨X.K,μ⟩ (upd H3 c (.lst us)) (Av ⟨X.K,μ⟩ A0 ρ σ la) (.lst es) (.ref c):=fun {es us c} hc r=>by
  unfold Rep
  exact ⟨c,us,rfl,(s.grow sA).Oa hc,upd_same,r.same (Same.new hc)⟩
 cases a <;> try (cases e; done)
 ·obtain ⟨hz,rfl⟩:=Bq e
  exact .inr ⟨_,r3,by rw [sizeLine_eq]; exact hz,q _ _ sA rfl⟩
 ·cases e
  unfold Rep at r3
  obtain ⟨c0,vs,rfl,n,h1,r⟩:=r3
  exact .inl ⟨c0,vs,rfl,SqL.of h1,fun c hc=>q _ _ (sA.trans (Same.new hc)) (new hc r.cut)⟩
 ·cases e
  unfold Rep at r3
  obtain ⟨c0,vs,rfl,h1,r⟩:=r3
  exact .inl ⟨c0,vs,rfl,SqL.ez h1,fun c hc=>q _ _ (sA.trans (Same.new hc)) (new hc r.cut)⟩
def bF:Dt→Option (List Dt)
 | .lst ds=>some ds.reverse
 | .fls ds=>some ds.reverse
 | _=>none
def cw(f:Env→Out Dt):Env→Out (List Dt):=fun ρ=>(f ρ).bind fun a=>GI (bF a)
theorem Ah.rev{K:KM}{H:Hp}{A:Ad}:∀ {ds:List Dt} {vs:List V},Ah K H A ds vs→Ah K H A ds.reverse vs.reverse
 | [],vs,r=>by unfold Ah at r; subst r; exact Ah.nil
 | d :: ds,vs,r=>by
  unfold Ah at r
  obtain ⟨v,q,rfl,r1,r2⟩:=r
  rw [List.reverse_cons,List.reverse_cons]
  exact Ah.append (Ah.rev r2) (Ah.cons r1 Ah.nil)
theorem jI{k:Nat}{q1 q2 q3:Pos}(he:Bv X W e f la):ZC X W (.Subscript e (.Slice none none (some (.UnaryOp .USub (.Constant (.int 1) k q1) q2)) q3) pos) (cw f) la:=by
 obtain ⟨t,p,d⟩:=he
 refine ⟨_,pe_revL p,?_⟩
 intro μ H0 A0 ρ σ H Q s h
 refine d _ _ _ _ _ _ _ s (h.seq fun a _ h1 v H1 s1 r1=>?_)
 obtain ⟨ds,e,q⟩:=B6 h1
 cases a <;> try (cases e; done)
 ·cases e
  unfold Rep at r1
  obtain ⟨c0,vs,rfl,n,h1,r⟩:=r1
  exact ⟨c0,vs,rfl,SqL.of h1,fun c hc=>q c _ _ (s1.trans (Same.new hc)) (s1.free hc) upd_same ((Ah.fresh hc _ _ (Ah.rev r)).same (Same.new hc))⟩
 ·cases e
  unfold Rep at r1
  obtain ⟨c0,vs,rfl,h1,r⟩:=r1
  exact ⟨c0,vs,rfl,SqL.ez h1,fun c hc=>q c _ _ (s1.trans (Same.new hc)) (s1.free hc) upd_same ((Ah.fresh hc _ _ (Ah.rev r)).same (Same.new hc))⟩
end
end FD
namespace FD
open PySem L2 PyProof.Rows PySem.Spec
inductive XO (α:Type) where
 | ok (a:α) (ρ:Env) | exc (x:Exn) (ρ:Env) | bad
def XO.bind{α β:Type}(o:XO α)(f:α→Env→XO β):XO β:=match o with
 | .ok a ρ=>f a ρ
 | .exc x ρ=>.exc x ρ
 | .bad=>.bad
@[simp] theorem XO.AA{α β:Type}(a:α)(ρ:Env)(f:α→Env→XO β):(XO.ok a ρ).bind f=f a ρ:=rfl
theorem XO.bind_assoc{α β γ:Type}(o:XO α)(f:α→Env→XO β)(g:β→Env→XO γ):(o.bind f).bind g=o.bind fun a ρ=>(f a ρ).bind g:=by
 cases o <;> rfl
def Out.x{α:Type}(o:Out α)(ρ:Env):XO α:=match o with
 | .ok a=>.ok a ρ
 | .exc x=>.exc x ρ
 | .bad=>.bad
@[simp] theorem Out.Yg{α:Type}(a:α)(ρ:Env):(Out.ok a).x ρ=.ok a ρ:=rfl
def Out.xb{α β:Type}(o:Out α)(ρ:Env)(k:α→XO β):XO β:=match o with
 | .ok a=>k a
 | .exc x=>.exc x ρ
 | .bad=>.bad
def xP{α:Type}(f:Env→Out α):Env→XO α:=fun ρ=>(f ρ).x ρ
structure Ch (K:PySem.W.Frag) (S:List Nat) (σ:L2.St) (μ:Mu) (H:Hp) (ρ:Env) (μ':Mu) (H':Hp) (ρ':Env):Prop where
 xt:Xt μ μ'
 keep:∀ a o,H a=some o→(∀ i,i∈S→¬ Bw ⟨K,μ⟩ ρ σ i a)→H' a=some o
 env:∀ j,j∉S→ρ'[j]? = ρ[j]?
 own:∀ j a,j∈S→Bw ⟨K,μ'⟩ ρ' σ j a→(∃ i,i∈S∧Bw ⟨K,μ⟩ ρ σ i a)∨H a=none
 mh:μ'=μ∨∀ (j:Nat) (cs:List Cell),ρ[j]? = some (some (.mh cs))→j∈S
section
variable {K:PySem.W.Frag} {S:List Nat} {σ:L2.St} {μ μ' μ'':Mu} {H H' H'' H0:Hp} {ρ ρ' ρ'':Env} {A0:Ad} {lk la lb:List Nat} {W:WX} {d:Dt} {v:V} {α β:Type}
theorem Ch.refl(μ:Mu)(H:Hp)(ρ:Env):Ch K S σ μ H ρ μ H ρ:=⟨Xt.refl _,fun _ _ e _=>e,fun _ _=>rfl,fun j a hj h=>.inl ⟨j,hj,h⟩,.inl rfl⟩
theorem Ch.grow(c:Ch K S σ μ H ρ μ' H' ρ')(hs:Same H' H''):Ch K S σ μ H ρ μ' H'' ρ':=⟨c.xt,fun a o e n=>hs a o (c.keep a o e n),c.env,c.own,c.mh⟩
theorem Ch.trans(c:Ch K S σ μ H ρ μ' H' ρ')(c':Ch K S σ μ' H' ρ' μ'' H'' ρ''):Ch K S σ μ H ρ μ'' H'' ρ'':=by
 refine ⟨c.xt.trans c'.xt,fun a o e n=>?_,fun j hj=>(c'.env j hj).trans (c.env j hj),fun j a hj h=>?_,?_⟩
 ·refine c'.keep a o (c.keep a o e n) fun i hi q=>?_
  rcases c.own i a hi q with ⟨j,hj,q⟩ | q
  ·exact n j hj q
  ·rw [e] at q; cases q
 ·rcases c'.own j a hj h with ⟨i,hi,q⟩ | q
  ·exact c.own i a hi q
  ·cases e:H a with
   | none=>exact .inr rfl
   | some o=>
    refine .inl (Classical.byContradiction fun n=>?_)
    have:=c.keep a o e fun i hi q=>n ⟨i,hi,q⟩
    rw [q] at this
    cases this
 ·rcases c.mh with e | m
  ·rcases c'.mh with e' | m'
   ·exact .inl (e'.trans e)
   ·refine .inr fun j cs q=>Classical.byContradiction fun n=>?_
    exact n (m' j cs (by rw [c.env j n]; exact q))
  ·exact .inr m
theorem Ch.back(c:Ch K S σ μ H ρ μ' H' ρ'){j:Nat}{a:Addr}(hj:j∉S)(h:Bw ⟨K,μ'⟩ ρ' σ j a):Bw ⟨K,μ⟩ ρ σ j a:=by
 obtain ⟨l,e,ho⟩:=h
 rw [c.env j hj] at e
 refine ⟨l,e,ho.ext fun q=>?_⟩
 rcases c.mh with z | m
 ·exact z
 ·cases l with
  | mh cs=>exact absurd (m j cs e) hj
  | _=>cases q
theorem Ch.av(c:Ch K S σ μ H ρ μ' H' ρ')(hd:∀ i,i∈S→i∉lk){a:Addr}(z:Av ⟨K,μ'⟩ A0 ρ' σ lk a):Av ⟨K,μ⟩ A0 ρ σ lk a∨H a=none:=by
 rcases z with z | ⟨j,n,h⟩
 ·exact .inl (.inl z)
 ·by_cases hj:j∈S
  ·rcases c.own j a hj h with ⟨i,hi,q⟩ | q
   ·exact .inl (.inr ⟨i,hd i hi,q⟩)
   ·exact .inr q
  ·exact .inl (.inr ⟨j,n,c.back hj h⟩)
theorem Ch.kp(c:Ch K S σ μ H ρ μ' H' ρ')(hd:∀ i,i∈S→i∉lk):∀ a o,¬ Av ⟨K,μ⟩ A0 ρ σ lk a→H a=some o→H' a=some o:=fun a o n e=>c.keep a o e fun i hi q=>n (.inr ⟨i,hd i hi,q⟩)
theorem Ch.rep(c:Ch K S σ μ H ρ μ' H' ρ')(hd:∀ i,i∈S→i∉lk)(r:Rep ⟨K,μ⟩ H (Av ⟨K,μ⟩ A0 ρ σ lk) d v):Rep ⟨K,μ'⟩ H' (Av ⟨K,μ'⟩ A0 ρ' σ lk) d v:=
 r.SH c.xt (c.kp hd) fun a z=>c.av hd z
def DM(K:PySem.W.Frag)(W:WX)(μ:Mu)(H0:Hp)(A0:Ad)(σ:L2.St){α:Type}(o:XO α)(R:α→Env→Prop):Prop:=match o with
 | .ok a ρ=>R a ρ
 | .exc x ρ=>∀ μ' H' c od,Xt μ μ'→StOk ⟨K,μ'⟩ H0 A0 H' ρ σ→Qu K H' x c od→W c od σ H'
 | .bad=>False
theorem DM.ext{o:XO α}{R:α→Env→Prop}(x:Xt μ μ')(h:DM K W μ H0 A0 σ o R):DM K W μ' H0 A0 σ o R:=by
 cases o with
 | ok a ρ=>exact h
 | exc e ρ=>exact fun m H' c od y s r=>h m H' c od (x.trans y) s r
 | bad=>exact h
theorem DM.seq{o:XO α}{g:α→Env→XO β}{R:β→Env→Prop}{R':α→Env→Prop}(h:DM K W μ H0 A0 σ (o.bind g) R)(hk:∀ a ρ,o=.ok a ρ→DM K W μ H0 A0 σ (g a ρ) R→R' a ρ):DM K W μ H0 A0 σ o R':=by
 cases o with
 | ok a ρ=>exact hk a ρ rfl h
 | exc e ρ=>exact h
 | bad=>exact h
theorem DM.imp{o:XO α}{R R':α→Env→Prop}(h:DM K W μ H0 A0 σ o R)(hk:∀ a ρ,o=.ok a ρ→R a ρ→R' a ρ):DM K W μ H0 A0 σ o R':=by
 cases o with
 | ok a ρ=>exact hk a ρ rfl h
 | exc e ρ=>exact h
 | bad=>exact h
theorem DM.p{o:Out α}{R:α→Env→Prop}{R':α→Prop}(s:StOk ⟨K,μ⟩ H0 A0 H ρ σ)(h:DM K W μ H0 A0 σ (o.x ρ) R)(hk:∀ a,o=.ok a→R a ρ→R' a):DY K W H σ o R':=by
 cases o with
 | ok a=>exact hk a rfl h
 | exc e=>exact fun c od H' hs x=>h μ H' c od (Xt.refl _) (s.grow hs) x
 | bad=>exact h
theorem DM.pb{o:Out α}{k:α→XO β}{R:β→Env→Prop}{R':α→Prop}(s:StOk ⟨K,μ⟩ H0 A0 H ρ σ)(h:DM K W μ H0 A0 σ (o.xb ρ k) R)(hk:∀ a,o=.ok a→DM K W μ H0 A0 σ (k a) R→R' a):DY K W H σ o R':=by
 cases o with
 | ok a=>exact hk a rfl h
 | exc e=>exact fun c od H' hs x=>h μ H' c od (Xt.refl _) (s.grow hs) x
 | bad=>exact h
theorem DM.o{o:Option α}{R:α→Env→Prop}(h:DM K W μ H0 A0 σ ((GI o).x ρ) R):∃ a,o=some a∧R a ρ:=by
 cases o with
 | some a=>exact ⟨a,rfl,h⟩
 | none=>exact False.elim h
abbrev RM(K:PySem.W.Frag)(S:List Nat)(lk:List Nat)(μ:Mu)(H0:Hp)(A0:Ad)(ρ:Env)(σ:L2.St)(H:Hp)(Q:VK):Dt→Env→Prop:=fun d ρ'=>∀ μ' v H',Ch K S σ μ H ρ μ' H' ρ'→StOk ⟨K,μ'⟩ H0 A0 H' ρ' σ→Rep ⟨K,μ'⟩ H' (Av ⟨K,μ'⟩ A0 ρ' σ lk) d v→Q v H'
abbrev RMs(K:PySem.W.Frag)(S:List Nat)(lk:List Nat)(μ:Mu)(H0:Hp)(A0:Ad)(ρ:Env)(σ:L2.St)(H:Hp)(Q:List V→Hp→Prop):List Dt→Env→Prop:=fun ds ρ'=>∀ μ' vs H',Ch K S σ μ H ρ μ' H' ρ'→StOk ⟨K,μ'⟩ H0 A0 H' ρ' σ→Ah ⟨K,μ'⟩ H' (Av ⟨K,μ'⟩ A0 ρ' σ lk) ds vs→Q vs H'
abbrev RMl(K:PySem.W.Frag)(S:List Nat)(lk:List Nat)(μ:Mu)(H0:Hp)(A0:Ad)(ρ:Env)(σ:L2.St)(H:Hp)(Q:VK):List Dt→Env→Prop:=fun ds ρ'=>∀ μ' p vs H' H'',Ch K S σ μ H ρ μ' H' ρ'→StOk ⟨K,μ'⟩ H0 A0 H' ρ' σ→Same H' H''→H' p=none→H'' p=some (.lst vs)→Ah ⟨K,μ'⟩ H'' (fun a=>Av ⟨K,μ'⟩ A0 ρ' σ lk a∨a=p) ds vs→Q (.ref p) H''
abbrev RMt(K:PySem.W.Frag)(S:List Nat)(μ:Mu)(H0:Hp)(A0:Ad)(ρ:Env)(σ:L2.St)(H:Hp)(Q:Bool→Hp→Prop):Bool→Env→Prop:=fun b ρ'=>∀ μ' H',Ch K S σ μ H ρ μ' H' ρ'→StOk ⟨K,μ'⟩ H0 A0 H' ρ' σ→Q b H'
def Ml(K:PySem.W.Frag)(W:WX)(S:List Nat)(te:TE)(f:Env→XO Dt)(lk:List Nat):Prop:=
 ∀ (μ:Mu) (H0:Hp) (A0:Ad) (ρ:Env) (σ:L2.St) (H:Hp) (Q:VK),StOk ⟨K,μ⟩ H0 A0 H ρ σ→DM K W μ H0 A0 σ (f ρ) (RM K S lk μ H0 A0 ρ σ H Q)→te σ H Q
def ju(K:PySem.W.Frag)(W:WX)(S:List Nat)(ta:TA)(f:Env→XO (List Dt))(lk:List Nat):Prop:=
 ∀ (μ:Mu) (H0:Hp) (A0:Ad) (ρ:Env) (σ:L2.St) (H:Hp) (Q:List V→Hp→Prop),StOk ⟨K,μ⟩ H0 A0 H ρ σ→DM K W μ H0 A0 σ (f ρ) (RMs K S lk μ H0 A0 ρ σ H Q)→ta σ H Q
def TXL(K:PySem.W.Frag)(W:WX)(S:List Nat)(te:TE)(f:Env→XO (List Dt))(lk:List Nat):Prop:=
 ∀ (μ:Mu) (H0:Hp) (A0:Ad) (ρ:Env) (σ:L2.St) (H:Hp) (Q:VK),StOk ⟨K,μ⟩ H0 A0 H ρ σ→DM K W μ H0 A0 σ (f ρ) (RMl K S lk μ H0 A0 ρ σ H Q)→te σ H Q
def iS(K:PySem.W.Frag)(W:WX)(S:List Nat)(tt:TT)(f:Env→XO Bool):Prop:=
 ∀ (μ:Mu) (H0:Hp) (A0:Ad) (ρ:Env) (σ:L2.St) (H:Hp) (Q:Bool→Hp→Prop),StOk ⟨K,μ⟩ H0 A0 H ρ σ→DM K W μ H0 A0 σ (f ρ) (RMt K S μ H0 A0 ρ σ H Q)→tt σ H Q
def KP(X:Cx)(W:WX)(S:List Nat)(e:Expr)(f:Env→XO Dt)(lk:List Nat):Prop:=∃ te,PE X e te∧Ml X.K W S te f lk
def j7(X:Cx)(W:WX)(S:List Nat)(es:List Expr)(f:Env→XO (List Dt))(lk:List Nat):Prop:=∃ ta,PA X es ta∧ju X.K W S ta f lk
def PXL(X:Cx)(W:WX)(S:List Nat)(e:Expr)(f:Env→XO (List Dt))(lk:List Nat):Prop:=∃ te,PE X e te∧TXL X.K W S te f lk
def ka(X:Cx)(W:WX)(S:List Nat)(e:Expr)(f:Env→XO Bool):Prop:=∃ tt,PT X e tt∧iS X.K W S tt f
theorem lJ{te:TE}{f:Env→Out Dt}(h:D3 K W te f lk):Ml K W S te (xP f) lk:=fun μ H0 A0 ρ σ H Q s hp=>
 h _ _ _ _ _ _ _ s (DM.p s hp fun d _ q v H' hs r=>q μ v H' ((Ch.refl _ _ _).grow hs) (s.grow hs) r)
theorem kL{ta:TA}{f:Env→Out (List Dt)}(h:Ub K W ta f lk):ju K W S ta (xP f) lk:=fun μ H0 A0 ρ σ H Q s hp=>
 h _ _ _ _ _ _ _ s (DM.p s hp fun d _ q v H' hs r=>q μ v H' ((Ch.refl _ _ _).grow hs) (s.grow hs) r)
def x1(fa:Env→XO Dt)(g:Dt→Option Dt):Env→XO Dt:=fun ρ=>(fa ρ).bind fun a ρ1=>(GI (g a)).x ρ1
def x2(fa fb:Env→XO Dt)(g:Dt→Dt→Option Dt):Env→XO Dt:=fun ρ=>(fa ρ).bind fun a ρ1=>(fb ρ1).bind fun b ρ2=>(GI (g a b)).x ρ2
def jR(fa:Env→XO Dt)(g:Dt→Option Bool):Env→XO Bool:=fun ρ=>(fa ρ).bind fun a ρ1=>(GI (g a)).x ρ1
def WU(fa fb:Env→XO Dt)(g:Dt→Dt→Option Bool):Env→XO Bool:=fun ρ=>(fa ρ).bind fun a ρ1=>(fb ρ1).bind fun b ρ2=>(GI (g a b)).x ρ2
def xT(f:Env→XO Bool):Env→XO Dt:=fun ρ=>(f ρ).bind fun b ρ1=>.ok (.bl b) ρ1
def Uu(f:Env→XO Bool):Env→XO Bool:=fun ρ=>(f ρ).bind fun b ρ1=>.ok (!b) ρ1
def LZ(f:Env→XO Dt)(g:Env→XO (List Dt)):Env→XO (List Dt):=fun ρ=>(f ρ).bind fun d ρ1=>(g ρ1).bind fun ds ρ2=>.ok (d :: ds) ρ2
def cA(f:Env→XO (List Dt)):Env→XO (List Dt):=fun ρ=>(f ρ).bind fun ds ρ1=>if ds.length≤16777216 then .ok ds ρ1 else .bad
theorem gQ{ta tb:TE}{fa fb:Env→XO Dt}{g:Dt→Dt→Option Dt}{r:R2}(hr:Sx K r g)(ha:Ml K W S ta fa la)(hb:Ml K W S tb fb lb)(hd:∀ i,i∈S→i∉la):Ml K W S (tOp r ta tb) (x2 fa fb g) (la ++ lb):=by
 intro μ H0 A0 ρ σ H Q s h
 refine ha _ _ _ _ _ _ _ s (h.seq fun a ρ1 _ h1 μ1 v1 H1 c1 s1 r1=>?_)
 refine hb _ _ _ _ _ _ _ s1 ((h1.ext c1.xt).seq fun b ρ2 _ h2 μ2 v2 H2 c2 s2 r2=>?_)
 obtain ⟨d,e,q⟩:=h2.o
 exact hr μ2 H2 _ a b d v1 v2 Q (fun c z=>s2.LG z) ((c2.rep hd r1).BZ fun _=>bf) (r2.BZ fun _=>bZ) e fun v H' hs r=>q μ2 v H' ((c1.trans c2).grow hs) (s2.grow hs) r
theorem iF{ta tb:TE}{fa fb:Env→XO Dt}{g:Dt→Dt→Option Dt}{r:R2}(hr:Sx K r g)(hg:∀ a b d,g a b=some d→d.scal=true)(ha:Ml K W S ta fa la)(hb:Ml K W S tb fb lb)(hd:∀ i,i∈S→i∉la):Ml K W S (tOp r ta tb) (x2 fa fb g) []:=by
 intro μ H0 A0 ρ σ H Q s h
 refine ha _ _ _ _ _ _ _ s (h.seq fun a ρ1 _ h1 μ1 v1 H1 c1 s1 r1=>?_)
 refine hb _ _ _ _ _ _ _ s1 ((h1.ext c1.xt).seq fun b ρ2 _ h2 μ2 v2 H2 c2 s2 r2=>?_)
 obtain ⟨d,e,q⟩:=h2.o
 exact hr μ2 H2 bX a b d v1 v2 Q (fun c z=>False.elim z) (c2.rep hd r1).Zz r2.Zz e fun v H' hs r=>q μ2 v H' ((c1.trans c2).grow hs) (s2.grow hs) (r.scal (hg _ _ _ e))
theorem jX{ta tb:TE}{fa fb:Env→XO Dt}{g:Dt→Dt→Option Bool}{r:R2}(hr:OQ K r g)(ha:Ml K W S ta fa la)(hb:Ml K W S tb fb lb)(hd:∀ i,i∈S→i∉la):iS K W S (tTest (tOp r ta tb)) (WU fa fb g):=by
 intro μ H0 A0 ρ σ H Q s h
 refine ha _ _ _ _ _ _ _ s (h.seq fun a ρ1 _ h1 μ1 v1 H1 c1 s1 r1=>?_)
 refine hb _ _ _ _ _ _ _ s1 ((h1.ext c1.xt).seq fun b ρ2 _ h2 μ2 v2 H2 c2 s2 r2=>?_)
 obtain ⟨d,e,q⟩:=h2.o
 exact hr μ2 H2 bX a b d v1 v2 _ (c2.rep hd r1).Zz r2.Zz e ⟨d,rfl,q μ2 H2 (c1.trans c2) s2⟩
theorem dB{ta tb:TE}{fa fb:Env→XO Dt}{g:Dt→Dt→Option Bool}{r:R2}(hr:OQ K r g)(ha:Ml K W S ta fa la)(hb:Ml K W S tb fb lb)(hd:∀ i,i∈S→i∉la):Ml K W S (tOp r ta tb) (xT (WU fa fb g)) []:=by
 intro μ H0 A0 ρ σ H Q s h
 unfold xT WU at h
 rw [XO.bind_assoc] at h
 refine ha _ _ _ _ _ _ _ s (h.seq fun a ρ1 _ h1 μ1 v1 H1 c1 s1 r1=>?_)
 rw [XO.bind_assoc] at h1
 refine hb _ _ _ _ _ _ _ s1 ((h1.ext c1.xt).seq fun b ρ2 _ h2 μ2 v2 H2 c2 s2 r2=>?_)
 cases e:g a b with
 | none=>rw [e] at h2; exact False.elim h2
 | some d=>
  rw [e] at h2
  exact hr μ2 H2 bX a b d v1 v2 _ (c2.rep hd r1).Zz r2.Zz e (h2 μ2 (.bl d) H2 (c1.trans c2) s2 rfl)
theorem fO{ta:TT}{fa:Env→XO Bool}(ha:iS K W S ta fa):iS K W S (tNot ta) (Uu fa):=by
 intro μ H0 A0 ρ σ H Q s h
 exact ha _ _ _ _ _ _ _ s (h.seq fun b ρ1 _ h1 μ1 H1 c1 s1=>h1 μ1 H1 c1 s1)
theorem ZN{ta:TE}{tr:TA}{f:Env→XO Dt}{g:Env→XO (List Dt)}(ha:Ml K W S ta f la)(hr:ju K W S tr g lb)(hd:∀ i,i∈S→i∉la):ju K W S (tCons ta tr) (LZ f g) (la ++ lb):=by
 intro μ H0 A0 ρ σ H Q s h
 refine ha _ _ _ _ _ _ _ s (h.seq fun a ρ1 _ h1 μ1 v1 H1 c1 s1 r1=>?_)
 refine hr _ _ _ _ _ _ _ s1 ((h1.ext c1.xt).seq fun b ρ2 _ h2 μ2 v2 H2 c2 s2 r2=>?_)
 exact h2 μ2 _ H2 (c1.trans c2) s2 (Ah.cons ((c2.rep hd r1).BZ fun _=>bf) (r2.BZ fun _=>bZ))
theorem cZ{ta:TA}{f:Env→XO (List Dt)}(ha:ju K W S ta f la):TXL K W S (tLst ta) (cA f) la:=by
 intro μ H0 A0 ρ σ H Q s h
 refine ha _ _ _ _ _ _ _ s (h.seq fun ds ρ1 _ h1 μ1 vs H1 c1 s1 r1=>?_)
 split at h1
 ·rename_i hl
  refine ⟨by rw [r1.length,sizeLine_eq]; exact hl,fun p hp=>h1 μ1 p vs H1 _ c1 s1 (Same.new hp) hp upd_same ?_⟩
  exact (Ah.fresh hp _ _ r1).same (Same.new hp)
 ·exact False.elim h1
def xE{α:Type}(o:XO α)(k:α→Env→SOut):SOut:=match o with
 | .ok a ρ=>k a ρ
 | .exc x ρ=>.exc x ρ
 | .bad=>.bad
@[simp] theorem Og{α:Type}(a:α)(ρ:Env)(k:α→Env→SOut):xE (.ok a ρ) k=k a ρ:=rfl
theorem A9.xt{o:XO α}{k:α→Env→SOut}{D:Ends}{R:α→Env→Prop}(h:A9 K W μ H0 A0 (xE o k) D)(hk:∀ a ρ,o=.ok a ρ→A9 K W μ H0 A0 (k a ρ) D→R a ρ):DM K W μ H0 A0 σ o R:=by
 cases o with
 | ok a ρ=>exact hk a ρ rfl h
 | exc e ρ=>exact fun μ' H' c od y s r=>h μ' σ H' c od y s r
 | bad=>exact h
def BO(i:Nat)(f:Env→XO Dt)(lk:List Nat):Env→SOut:=fun ρ=>xE (f ρ) fun d ρ=>.ok .nx ((AQ d lk ρ).set i (some (.sh d)))
def Ss(f:Env→XO Dt)(lk:List Nat):Env→SOut:=fun ρ=>xE (f ρ) fun d ρ=>.ok (.rt d) (AQ d lk ρ)
def OH(c:Env→XO Bool)(f g:Env→SOut):Env→SOut:=fun ρ=>xE (c ρ) fun b ρ=>if b=true then f ρ else g ρ
def FE(i:Nat)(f:Env→XO Dt)(lk:List Nat):Env→SOut:=fun ρ=>match ρ[i]? with
 | some (some (.ol _))=>xE (f ρ) fun d ρ=>(match (AQ d lk ρ)[i]? with
  | some (some (.ol ds))=>if ds.length < 16777216 then .ok .nx ((AQ d lk ρ).set i (some (.ol (ds ++ [d])))) else .bad
  | _=>.bad)
 | _=>.bad
theorem ak{te:TE}{f:Env→XO Dt}{i:Nat}(ha:Ml K W S te f la):Jc K W (tAsg te (gName i)) (BO i f la):=by
 intro μ H0 A0 ρ σ H D s h
 exact ha _ _ _ _ _ _ _ s (A9.xt h fun d ρ1 _ h1 μ1 v H1 c1 s1 r1=>h1 μ1 _ _ c1.xt (s1.give (Same.refl _) r1))
theorem ZF{te:TE}{f:Env→XO Dt}(ha:Ml K W S te f la):Jc K W (tRet te) (Ss f la):=by
 intro μ H0 A0 ρ σ H D s h
 refine ha _ _ _ _ _ _ _ s (A9.xt h fun d ρ1 _ h1 μ1 v H1 c1 s1 r1=>?_)
 obtain ⟨s2,r2⟩:=s1.RH r1
 exact h1 μ1 _ _ _ c1.xt s2 r2
theorem eU{tc:TT}{t u:TS}{c:Env→XO Bool}{f g:Env→SOut}(hc:iS K W S tc c)(ht:Jc K W t f)(hu:Jc K W u g):Jc K W (tIfS tc t u) (OH c f g):=by
 intro μ H0 A0 ρ σ H D s h
 refine hc _ _ _ _ _ _ _ s (A9.xt h fun b ρ1 _ h1 μ1 H1 c1 s1=>?_)
 cases b with
 | true=>exact ht _ _ _ _ _ _ _ s1 (A9.ext c1.xt h1)
 | false=>exact hu _ _ _ _ _ _ _ s1 (A9.ext c1.xt h1)
theorem U9{te:TE}{f:Env→XO Dt}{i:Nat}(ha:Ml K W S te f la)(hi:i∉S):Jc K W (tDrop (tBM K "list" rAppend (tVar i) (tCons te tNil))) (FE i f la):=by
 intro μ H0 A0 ρ σ H D s h
 unfold FE at h
 split at h
 ·rename_i ds0 e0
  obtain ⟨a,vs,e1,h0,h1,r0⟩:=s.lo i _ e0
  refine ⟨_,e1,.inl ⟨rfl,vs,SqL.of h1⟩,?_⟩
  refine ha _ _ _ _ _ _ _ s (A9.xt h fun d ρ1 _ h2 μ1 v H1 c1 s1 r1=>?_)
  obtain ⟨s2,r2⟩:=s1.RH r1
  split at h2
  ·rename_i ds e2
   split at h2
   ·rename_i hl
    obtain ⟨a',vs',e3,h0',h1',r3⟩:=s2.lo i _ e2
    rw [e1] at e3
    cases e3
    refine ⟨a,vs',v,rfl,rfl,h1',by rw [r3.length,sizeLine_eq]; exact hl,?_⟩
    exact h2 _ _ _ c1.xt (s2.jv e2 e1 (Ah.append r3 (Ah.cons r2 Ah.nil)))
   ·exact False.elim h2
  ·exact False.elim h2
 ·exact False.elim h
end
end FD
namespace FD
open PySem L2 PyProof.Rows PySem.Spec
def Ed(n:Nat)(ρ:Env):Option (List Cell):=match ρ[n]? with
 | some (some (.mh cs))=>some cs
 | _=>none
theorem Dm{n:Nat}{ρ:Env}{cs:List Cell}(h:Ed n ρ=some cs):ρ[n]? = some (some (.mh cs)):=by
 unfold Ed at h
 split at h
 ·rename_i c e
  cases h
  exact e
 ·cases h
def Cell.nl:Cell→Bool
 | .gone=>true
 | .lst ds=>Dt.Zf ds
 | .dic _ ds=>Dt.Zf ds
 | .ins _ _ ds=>Dt.Zf ds
def Lv(κ:KM)(cs:List Cell):Ad:=fun a=>Dw κ (.mh cs) none a
def kA:Hp:=fun _=>none
inductive MO where
 | ok (d:Dt) (cs:List Cell) | exc (x:Exn) (cs:List Cell) | bad
structure MCh (K:PySem.W.Frag) (A:Ad) (μ:Mu) (cs:List Cell) (H:Hp) (μ':Mu) (cs':List Cell) (H':Hp):Prop where
 xt:Xt μ μ'
 keep:∀ a o,H a=some o→¬ Lv ⟨K,μ⟩ cs a→H' a=some o
 own:∀ a,Lv ⟨K,μ'⟩ cs' a→Lv ⟨K,μ⟩ cs a∨H a=none
 ok:FA ⟨K,μ'⟩ kA H' (fun a=>A a∨Lv ⟨K,μ'⟩ cs' a) (.mh cs') none
def SJ(K:PySem.W.Frag)(A:Ad)(μ:Mu)(cs:List Cell)(H:Hp)(Q:VK)(E:XK)(o:MO):Prop:=match o with
 | .ok d cs'=>∀ μ' v H',MCh K A μ cs H μ' cs' H'→Rep ⟨K,μ'⟩ H' (fun a=>A a∨Lv ⟨K,μ'⟩ cs' a) d v→Q v H'
 | .exc x cs'=>∀ μ' c od H',MCh K A μ cs H μ' cs' H'→Qu K H' x c od→E c od H'
 | .bad=>False
def gP(K:PySem.W.Frag)(φ:List Dt→List Cell→MO):Sp:=fun vs H Q E=>∃ (ds:List Dt) (A:Ad) (μ:Mu) (cs:List Cell),Ah ⟨K,μ⟩ H (fun a=>A a∨Lv ⟨K,μ⟩ cs a) ds vs∧FA ⟨K,μ⟩ kA H (fun a=>A a∨Lv ⟨K,μ⟩ cs a) (.mh cs) none ∧
 (∀ a,A a→Mut (H a))∧(∀ a,A a→¬ Lv ⟨K,μ⟩ cs a)∧μ.fix=false∧SJ K A μ cs H Q E (φ ds cs)
def runM(n:Nat)(g:Env→SOut)(ds:List Dt)(cs:List Cell):MO:=match g (ds.map (fun d=>some (Lo.sh d)) ++ List.replicate (n - ds.length) none ++ [some (.mh cs)]) with
 | .ok .nx ρ=>(match Ed n ρ with
  | some cs'=>.ok .non cs'
  | none=>.bad)
 | .ok (.rt d) ρ=>(match Ed n ρ with
  | some cs'=>.ok d cs'
  | none=>.bad)
 | .exc x ρ=>(match Ed n ρ with
  | some cs'=>.exc x cs'
  | none=>.bad)
 | _=>.bad
def LO(n:Nat)(φ:List Dt→List Cell→MO)(ds:List Dt)(cs:List Cell):MO:=if ds.length=n then φ ds cs else .bad
def NJ(K:PySem.W.Frag)(n:Nat)(φ:List Dt→List Cell→MO):Sp:=fun vs H Q E=>vs.length=n∧gP K φ vs H Q E
section
variable {P:Program} {w:World} {K:PySem.W.Frag} {mg:Str→Option Value} {base:Heap} {H:Hp} {A:Ad} {μ:Mu} {cs:List Cell}
open Classical in
noncomputable def Hm(κ:KM)(cs:List Cell)(H:Hp):Hp:=fun a=>if Lv κ cs a then none else H a
theorem FA.fW{H0 H0':Hp}{A':Ad}{s s':Option (Option V)}{κ:KM}(h:FA κ H0 H A (.mh cs) s)(h0:∀ a,Lv κ cs a→H0 a=none→H0' a=none)(ha:∀ a,A' a→A a∨H a=none):FA κ H0' H A' (.mh cs) s':=
 FA.gen (F:=κ.K) (m:=κ.mu) (m':=κ.mu) (sv:=s') (Xt.refl _) (fun _=>rfl) (fun _ _ _ e=>e) ha (fun _ _ _ e=>e) (fun a o e=>h0 a o e) (show FA κ H0 H A (.mh cs) s' from h)
theorem Sm{N:List Str}{n:Nat}{ds:List Dt}{vs:List V}(hN:N.length=n + 1)(hl:ds.length≤n)(r:Ah ⟨K,μ⟩ H (fun a=>A a∨Lv ⟨K,μ⟩ cs a) ds vs)(hm:FA ⟨K,μ⟩ kA H (fun a=>A a∨Lv ⟨K,μ⟩ cs a) (.mh cs) none)(ha:∀ a,A a→Mut (H a))
  (hd:∀ a,A a→¬ Lv ⟨K,μ⟩ cs a) (hf:μ.fix=false):StOk ⟨K,μ⟩ (Hm ⟨K,μ⟩ cs H) A H (ds.map (fun d=>some (Lo.sh d)) ++ List.replicate (n - ds.length) none ++ [some (.mh cs)]) (L2.start N vs):=by
 have hlen:(ds.map (fun d=>some (Lo.sh d)) ++ List.replicate (n - ds.length) (none:Option Lo)).length=n:=by simp; omega
 have cases':∀ (i:Nat) (l:Lo),(ds.map (fun d=>some (Lo.sh d)) ++ List.replicate (n - ds.length) none ++ [some (.mh cs)])[i]? = some (some l)→(∃ d,ds[i]? = some d∧l=.sh d)∨(i=n∧l=.mh cs):=fun i l e=>by
  by_cases hi:i < n
  ·rw [List.getElem?_append_left (by rw [hlen]; exact hi)] at e
   left
   by_cases h:i < ds.length
   ·rw [List.getElem?_append_left (by simpa using h),List.getElem?_map,List.getElem?_eq_getElem h] at e
    cases e
    exact ⟨_,List.getElem?_eq_getElem h,rfl⟩
   ·rw [List.getElem?_append_right (by simpa using Nat.le_of_not_lt h),List.getElem?_replicate] at e
    split at e <;> cases e
  ·rw [List.getElem?_append_right (by rw [hlen]; omega),hlen] at e
   cases hz:i - n with
   | zero=>
    rw [hz] at e
    cases e
    exact .inr ⟨by omega,rfl⟩
   | succ k=>rw [hz] at e; cases e
 have ow:∀ i a,Bw ⟨K,μ⟩ (ds.map (fun d=>some (Lo.sh d)) ++ List.replicate (n - ds.length) none ++ [some (.mh cs)]) (L2.start N vs) i a→i=n∧Lv ⟨K,μ⟩ cs a:=by
  rintro i a ⟨l,e,ho⟩
  rcases cases' i l e with ⟨d,_,rfl⟩ | ⟨h,rfl⟩
  ·exact False.elim ho
  ·exact ⟨h,ho⟩
 have av:∀ a,Av ⟨K,μ⟩ A (ds.map (fun d=>some (Lo.sh d)) ++ List.replicate (n - ds.length) none ++ [some (.mh cs)]) (L2.start N vs) [] a→A a∨Lv ⟨K,μ⟩ cs a:=by
  rintro a (z | ⟨i,_,z⟩)
  ·exact .inl z
  ·exact .inr (ow i a z).2
 refine ⟨fun a o e=>?_,fun a z=>?_,?_,fun i l e=>?_,fun i j a h1 h2=>(ow i a h1).1.trans (ow j a h2).1.symm,fun i j c1 c2 e1 e2=>?_,fun z=>by rw [hf] at z; cases z⟩
 ·unfold Hm at e
  split at e
  ·cases e
  ·exact e
 ·unfold Hm
  rw [if_neg (hd a z)]
  exact ha a z
 ·unfold L2.start
  simp [r.length,hN]
  omega
 ·rcases cases' i l e with ⟨d,e1,rfl⟩ | ⟨h,rfl⟩
  ·obtain ⟨v,e3,r3⟩:=r.get e1
   refine ⟨v,?_,r3.BZ fun a z=>av a z⟩
   unfold L2.start
   have hi:i < vs.length:=(List.getElem?_eq_some_iff.mp e3).1
   rw [List.getElem?_append_left (by simpa using hi),List.getElem?_map,e3]
   rfl
  ·exact hm.fW (fun a z _=>by unfold Hm; rw [if_pos z]) fun a z=>.inl (av a z)
 ·rcases cases' i _ e1 with ⟨d,_,z⟩ | ⟨h,_⟩
  ·cases z
  ·rcases cases' j _ e2 with ⟨d,_,z⟩ | ⟨h',_⟩
   ·cases z
   ·rw [h,h']
theorem WI{n:Nat}{μ':Mu}{H':Hp}{ρ:Env}{σ:L2.St}{cs':List Cell}(x:Xt μ μ')(s:StOk ⟨K,μ'⟩ (Hm ⟨K,μ⟩ cs H) A H' ρ σ)(e:Ed n ρ=some cs'):MCh K A μ cs H μ' cs' H'∧∀ a,(A a∨Lv ⟨K,μ'⟩ cs' a)→Av ⟨K,μ'⟩ A ρ σ [] a:=by
 have he:=Dm e
 have lo:=s.lo n _ he
 have av:∀ a,(A a∨Lv ⟨K,μ'⟩ cs' a)→Av ⟨K,μ'⟩ A ρ σ [] a:=fun a z=>z.imp id fun z=>⟨n,(fun q=>nomatch q),_,he,z⟩
 refine ⟨⟨x,fun a o e n=>s.same a o (by unfold Hm; rw [if_neg n]; exact e),fun a z=>?_,lo.fW (fun a _ _=>rfl) fun a z=>.inl (av a z)⟩,av⟩
 have q:=(lo.own (a:=a) z).2
 unfold Hm at q
 split at q
 ·exact .inl ‹_›
 ·exact .inr q
theorem YR{N:List Str}{n:Nat}{ds:List Dt}{vs:List V}{g:Env→SOut}{ts:TS}{Q:VK}{E:XK}(hN:N.length=n + 1)(hl:ds.length≤n)(hd:Jc K (fun c d _ H'=>E c d H') ts g)(r:Ah ⟨K,μ⟩ H (fun a=>A a∨Lv ⟨K,μ⟩ cs a) ds vs)
  (hm:FA ⟨K,μ⟩ kA H (fun a=>A a∨Lv ⟨K,μ⟩ cs a) (.mh cs) none) (ha:∀ a,A a→Mut (H a)) (hda:∀ a,A a→¬ Lv ⟨K,μ⟩ cs a) (hf:μ.fix=false)
  (h:SJ K A μ cs H Q E (runM n g ds cs)):ts { nx:=fun _ H'=>Q .non H',rt:=Q } (L2.start N vs) H:=by
 refine hd μ _ A _ _ H _ (Sm hN hl r hm ha hda hf) ?_
 unfold runM at h
 cases e:g (ds.map (fun d=>some (Lo.sh d)) ++ List.replicate (n - ds.length) none ++ [some (.mh cs)]) with
 | ok fl ρ=>
  rw [e] at h
  cases fl with
  | nx=>
   intro μ' σ H' y s'
   simp only at h
   split at h
   ·rename_i cs' ec
    exact h μ' .non H' (WI y s' ec).1 rfl
   ·exact False.elim h
  | rt d=>
   intro μ' v σ H' y s' r'
   simp only at h
   split at h
   ·rename_i cs' ec
    obtain ⟨m,av⟩:=WI y s' ec
    exact h μ' v H' m (r'.BZ av)
   ·exact False.elim h
  | bk=>exact h.elim
  | ct=>exact h.elim
 | exc x ρ=>
  rw [e] at h
  intro μ' σ H' c od y s' r'
  simp only at h
  split at h
  ·rename_i cs' ec
   exact h μ' c od H' (WI y s' ec).1 r'
  ·exact False.elim h
 | bad=>rw [e] at h; exact h.elim
structure ClM (P:Program) (w:World) (K:PySem.W.Frag) (mg:Str→Option Value) (base:Heap) (x:Str) (k:Nat) (φ:List Dt→List Cell→MO):Prop where
 ex:∃ (f:Addr),FnR P w K mg base (L2N.CX P w) k f (gP K φ)∧mg x=some (.ref f)∧PySem.W.keepIn K (.ref f)=true
theorem Jw{x:Str}{f:Addr}{fd:FuncData}{ps:List Str}{k n:Nat}{φ:List Dt→List Cell→MO}(F:FnOk P w K mg base (L2N.CX P w) k f fd ps (NJ K n φ))(hm:mg x=some (.ref f))(hk:PySem.W.keepIn K (.ref f)=true)(hb:Binds K fd ps []):ClM P w K mg base x k (LO n φ):=by
 refine ⟨f,FnR.imp (F.raw hb .nil) (fun vs H Q E h=>?_),hm,hk⟩
 obtain ⟨ds,A,μ,cs,r,hm,ha,hd,hf,h⟩:=h
 unfold LO at h
 by_cases hl:ds.length=n
 ·rw [if_pos hl] at h
  rw [List.append_nil]
  exact ⟨by rw [r.length]; exact hl,ds,A,μ,cs,r,hm,ha,hd,hf,h⟩
 ·rw [if_neg hl] at h
  exact False.elim h
theorem GO{x qual:Str}{params:Arguments}{body:List Stmt}{scope:Scope}{dvs:List V}{kws:List (Str × V)}{f:Addr}{fd:FuncData}{N ps:List Str}{k n:Nat}{g:Env→SOut}(F:FunD K x qual params body scope dvs kws f fd)(S:FnScope N ps scope)(hN:N.length=n + 1)(hp:ps.length≤n)
  (hb:∀ (cdv:Value) (A:Around) (outer:List PySem.Env) (s:Shared) (H:Hp) (E:XK),Room k (A.deeper (envOfC qual scope s.heap.objs.size f cdv)) →
   JM (cxOf (L2N.CX P w) P w K mg base N qual scope f cdv A outer s H E) (fun c d _ H'=>E c d H') body g):
  FnOk P w K mg base (L2N.CX P w) (k + 1) f fd ps (NJ K ps.length (runM n g)):=by
 refine F.ok S (fun vs H Q E h=>h.1) (fun cdv A outer s H vs Q E hr h=>?_)
 obtain ⟨hl,ds,A',μ,cs,r,hm,ha,hd,hf,h⟩:=h
 obtain ⟨ts,hp',hdd⟩:=hb cdv A outer s H E hr
 exact ⟨ts,hp',YR hN (by rw [← r.length,hl]; exact hp) hdd r hm ha hd hf h⟩
end
def Gg(ρ:Env)(lk:List Nat)(d:Option Dt)(cs:List Cell):Bool:=lk.all (G0 ρ) || ((match d with
 | some d=>d.nl
 | none=>true) && cs.all Cell.nl && lk.all (Nt ρ))
def Az(n:Nat)(φ:List Dt→List Cell→MO)(f:Env→XO (List Dt))(lk:List Nat):Env→XO Dt:=fun ρ=>(f ρ).bind fun ds ρ1=>match Ed n ρ1 with
 | some cs=>(match φ ds cs with
  | .ok d cs'=>if Gg ρ1 lk (some d) cs'=true then .ok d (ρ1.set n (some (.mh cs'))) else .bad
  | .exc x cs'=>if Gg ρ1 lk none cs'=true then .exc x (ρ1.set n (some (.mh cs'))) else .bad
  | .bad=>.bad)
 | none=>.bad
section
variable {K:PySem.W.Frag} {S:List Nat} {σ:L2.St} {μ μ':Mu} {H H' H0:Hp} {ρ:Env} {A0:Ad} {lk:List Nat} {W:WX} {d:Dt} {v:V} {cs cs':List Cell} {n:Nat}
theorem Cell.nlOk{κ:KM}{A A':Ad}{c:Cell}{a:Addr}(hc:c.nl=true)(hm:∀ a,A' a→A a∨LD (H a))(h:G5 κ H0 H A c a):G5 κ H0 H A' c a:=by
 cases c with
 | gone=>exact h
 | lst ds=>obtain ⟨z,vs,e,r⟩:=h; exact ⟨z,vs,e,Ah.nl hm _ _ hc r⟩
 | dic ks ds=>obtain ⟨z,vs,e,e2,r⟩:=h; exact ⟨z,vs,e,e2,Ah.nl hm _ _ hc r⟩
 | ins C ns ds=>obtain ⟨z,dx,fs,e,e2,r⟩:=h; exact ⟨z,dx,fs,e,e2,Ah.nl hm _ _ hc r⟩
theorem fH(s:StOk ⟨K,μ⟩ H0 A0 H ρ σ)(e:ρ[n]? = some (some (.mh cs)))(hn:n∉lk){o:Option Dt}(hl:Gg ρ lk o cs'=true)(hk:∀ a o,H a=some o→¬ Lv ⟨K,μ⟩ cs a→H' a=some o):
  (∀ a,Av ⟨K,μ⟩ A0 ρ σ [n] a→Av ⟨K,μ⟩ A0 ρ σ (n :: lk) a)∨((∀ d,o=some d→d.nl=true)∧cs'.all Cell.nl=true∧∀ a,Av ⟨K,μ⟩ A0 ρ σ [n] a→Av ⟨K,μ⟩ A0 ρ σ (n :: lk) a∨LD (H' a)):=by
 unfold Gg at hl
 rw [Bool.or_eq_true] at hl
 rcases hl with hl | hl
 ·refine .inl fun a z=>?_
  rcases z with z | ⟨i,ni,l,e1,ho⟩
  ·exact .inl z
  ·refine .inr ⟨i,fun q=>?_,l,e1,ho⟩
   rcases List.mem_cons.mp q with q | q
   ·exact ni (List.mem_singleton.mpr q)
   ·have w:=List.all_eq_true.mp hl i q
    unfold G0 at w
    rw [e1] at w
    cases l with
    | sh d=>exact ho
    | _=>cases w
 ·rw [Bool.and_eq_true,Bool.and_eq_true] at hl
  obtain ⟨⟨h1,h2⟩,h3⟩:=hl
  refine .inr ⟨fun d z=>by rw [z] at h1; exact h1,h2,fun a z=>?_⟩
  rcases z with z | ⟨i,ni,l,e1,ho⟩
  ·exact .inl (.inl z)
  ·by_cases hi:i∈lk
   ·have w:=List.all_eq_true.mp h3 i hi
    unfold Nt at w
    rw [e1] at w
    have q:=(s.lo i l e1).W7 w ho
    obtain ⟨⟨u,hu⟩,_⟩:=s.Ci (i:=i) (a:=a) ⟨l,e1,ho⟩
    have nl:¬ Lv ⟨K,μ⟩ cs a:=fun z=>ni (List.mem_singleton.mpr (s.ap i n a ⟨l,e1,ho⟩ ⟨_,e,z⟩))
    refine .inr ?_
    rw [hk a u hu nl]
    rw [hu] at q
    exact q
   ·exact .inl (.inr ⟨i,fun q=>(List.mem_cons.mp q).elim (fun q=>ni (List.mem_singleton.mpr q)) hi,l,e1,ho⟩)
theorem StOk.called(s:StOk ⟨K,μ⟩ H0 A0 H ρ σ)(e:ρ[n]? = some (some (.mh cs)))(hn:n∉lk){o:Option Dt}(hl:Gg ρ lk o cs'=true)(m:MCh K (Av ⟨K,μ⟩ A0 ρ σ (n :: lk)) μ cs H μ' cs' H'):
  StOk ⟨K,μ'⟩ H0 A0 H' (ρ.set n (some (.mh cs'))) σ∧(n∈S→Ch K S σ μ H ρ μ' H' (ρ.set n (some (.mh cs')))) ∧
  (∀ d v,o=some d→Rep ⟨K,μ'⟩ H' (fun a=>Av ⟨K,μ⟩ A0 ρ σ (n :: lk) a∨Lv ⟨K,μ'⟩ cs' a) d v→Rep ⟨K,μ'⟩ H' (Av ⟨K,μ'⟩ A0 (ρ.set n (some (.mh cs'))) σ []) d v):=by
 have hi:n < σ.length:=by rw [s.len]; exact (List.getElem?_eq_some_iff.mp e).1
 have hnl:n < ρ.length:=(List.getElem?_eq_some_iff.mp e).1
 have lo0:∀ a,Lv ⟨K,μ⟩ cs a→H0 a=none:=fun a z=>(s.Ci (i:=n) ⟨_,e,z⟩).2
 have lv0:∀ a,Lv ⟨K,μ'⟩ cs' a→H0 a=none:=fun a z=>(m.own a z).elim (lo0 a) fun q=>s.same.free q
 have nown:∀ a,¬ Bw ⟨K,μ⟩ ρ σ n a→¬ Lv ⟨K,μ⟩ cs a:=fun a h z=>h ⟨_,e,z⟩
 have av:=fH s e hn hl m.keep
 have st:=StOk.OR (F:=K) (m:=μ) (m':=μ') (H':=H') s n (some (.mh cs')) σ[n] m.xt (.inr ⟨cs,e⟩) (fun a o q=>m.keep a o (s.same a o q) fun z=>by rw [lo0 a z] at q; cases q) (fun a o q h=>m.keep a o q (nown a h))
  (fun l e2 a h=>by cases e2; exact (m.own a h).imp (fun z=>⟨_,e,z⟩) id) (fun _ _=>⟨cs,e⟩) fun l e2 A' hA=>by
   cases e2
   rcases av with av | ⟨_,hc,av⟩
   ·exact m.ok.fW (fun a z _=>lv0 a z) fun a z=>.inl ((hA a z).imp (av a) id)
   ·obtain ⟨n1,n2,n3⟩:=m.ok
    refine ⟨n1,n2,fun k c a e1 e2=>?_⟩
    have hcc:=List.all_eq_true.mp hc c (List.mem_of_getElem? e1)
    have q:=Cell.nlOk (A':=A') hcc (fun a z=>(hA a z).elim (fun z=>(av a z).imp .inl id) fun z=>.inl (.inr z)) (n3 k c a e1 e2)
    exact q.gen (Xt.refl _) (fun _ _ _ e=>e) (fun _ z=>.inl z) (fun _ _ e=>e) fun hv _=>lv0 a ⟨k,c,e1,hv,e2⟩
 rw [Dy (List.getElem?_eq_getElem hi)] at st
 have av':∀ a,Av ⟨K,μ'⟩ A0 (ρ.set n (some (.mh cs'))) σ [] a→Av ⟨K,μ⟩ A0 ρ σ [n] a∨Lv ⟨K,μ'⟩ cs' a:=fun a z=>by
  rcases z with z | ⟨i,_,l,e1,ho⟩
  ·exact .inl (.inl z)
  ·by_cases h:n=i
   ·subst h
    rw [List.getElem?_set_self hnl] at e1
    cases e1
    exact .inr ho
   ·rw [List.getElem?_set_ne h] at e1
    refine .inl (.inr ⟨i,fun q=>h (List.mem_singleton.mp q).symm,l,e1,ho.ext fun q=>?_⟩)
    cases l with
    | mh c=>exact absurd (s.one n i _ _ e e1) h
    | _=>cases q
 refine ⟨st,fun hS=>⟨m.xt,fun a o q h=>m.keep a o q (nown a (h n hS)),fun j hj=>List.getElem?_set_ne fun (z:n=j)=>hj (by rw [← z]; exact hS),fun j a hj h=>?_,.inr fun j c q=>by rw [s.one j n _ _ q e]; exact hS⟩,fun d v eo r=>?_⟩
 ·obtain ⟨l,e1,ho⟩:=h
  by_cases h:n=j
  ·subst h
   rw [List.getElem?_set_self hnl] at e1
   cases e1
   exact (m.own a ho).imp (fun z=>⟨n,hS,_,e,z⟩) id
  ·rw [List.getElem?_set_ne h] at e1
   refine .inl ⟨j,hj,l,e1,ho.ext fun q=>?_⟩
   cases l with
   | mh c=>exact absurd (s.one n j _ _ e e1) h
   | _=>cases q
 ·rcases av with av | ⟨hd,_,av⟩
  ·exact r.BZ fun a z=>(av' a z).imp (av a) id
  ·refine Rep.nl (fun a z=>?_) d v (hd d eo) r
   rcases av' a z with z | z
   ·exact (av a z).imp .inl id
   ·exact .inl (.inr z)
theorem Yq{ta:TA}{fs:Env→XO (List Dt)}{φ:List Dt→List Cell→MO}(hS:n∈S)(hn:n∉lk)(ha:ju K W S ta fs lk):Ml K W S (aH (gP K φ) (WE W) ta) (Az n φ fs lk) []:=by
 intro μ H0 A0 ρ σ H Q s h
 refine ha _ _ _ _ _ _ _ s (h.seq fun ds ρ1 _ h1 μ1 vs H1 c1 s1 r1=>?_)
 split at h1
 ·rename_i cs ec
  have e:=Dm ec
  have lo:=s1.lo n _ e
  have avs:∀ a,(Av ⟨K,μ1⟩ A0 ρ1 σ (n :: lk) a∨Lv ⟨K,μ1⟩ cs a)→Av ⟨K,μ1⟩ A0 ρ1 σ lk a:=fun a z=>z.elim (fun z=>Av.sub (fun i hi=>List.mem_cons_of_mem _ hi) z) fun z=>.inr ⟨n,hn,_,e,z⟩
  refine ⟨ds,Av ⟨K,μ1⟩ A0 ρ1 σ (n :: lk),μ1,cs,r1.BZ avs,lo.fW (fun a _ _=>rfl) (fun a z=>.inl (avs a z).nil),fun a z=>s1.Ec z,fun a z q=>?_,?_,?_⟩
  ·rcases z with z | ⟨i,ni,z⟩
   ·have q1:=s1.a0 a z
    rw [(s1.Ci (i:=n) ⟨_,e,q⟩).2] at q1
    exact q1
   ·exact ni (by rw [s1.ap i n a z ⟨_,e,q⟩]; exact List.mem_cons_self)
  ·cases hf:μ1.fix with
   | false=>rfl
   | true=>exact absurd e (s1.nm hf n cs)
  ·unfold SJ
   cases eo:φ ds cs with
   | ok d cs'=>
    rw [eo] at h1
    simp only at h1
    split at h1
    ·rename_i hl
     intro μ' v H' m r
     obtain ⟨st,ch,rp⟩:=s1.called (S:=S) e hn hl m
     exact h1 μ' v H' (c1.trans (ch hS)) st (rp d v rfl r)
    ·exact False.elim h1
   | exc x cs'=>
    rw [eo] at h1
    simp only at h1
    split at h1
    ·rename_i hl
     intro μ' c od H' m r
     obtain ⟨st,ch,rp⟩:=s1.called (S:=S) e hn hl m
     exact h1 μ' H' c od (c1.xt.trans m.xt) st r
    ·exact False.elim h1
   | bad=>rw [eo] at h1; exact h1
 ·exact False.elim h1
end
end FD
namespace FD
open PySem L2 PyProof.Rows PySem.Spec
def Cell.d:Cell→Option Dt
 | .lst ds=>some (.lst ds)
 | .dic ks ds=>some (.dic ks ds)
 | .ins C ns ds=>some (.obj C ns ds)
 | .gone=>none
def bV(cs:Option (List Cell))(d:Dt):Option Dt:=match d with
 | .ad k=>cs.bind fun cs=>(cs[k]?).bind Cell.d
 | d=>some d
def IV(n:Nat)(f:Env→Out Dt):Env→Out Dt:=fun ρ=>(f ρ).bind fun d=>GI (bV (Ed n ρ) d)
section
variable {K:PySem.W.Frag} {S:List Nat} {σ:L2.St} {μ μ':Mu} {H H' H0:Hp} {ρ:Env} {A0:Ad} {lk la lb:List Nat} {W:WX} {d:Dt} {v:V} {cs cs':List Cell} {n:Nat}
theorem NZ(s:StOk ⟨K,μ⟩ H0 A0 H ρ σ){k:Nat}{ds:List Dt}{b:Addr}(ec:Ed n ρ=some cs)(e1:cs[k]? = some (.lst ds))(eb:μ.l[k]? = some b):∃ vs,H b=some (.lst vs)∧H0 b=none∧Ah ⟨K,μ⟩ H (Av ⟨K,μ⟩ A0 ρ σ []) ds vs:=by
 obtain ⟨_,_,hc⟩:=s.lo n _ (Dm ec)
 obtain ⟨z,vs,h1,r⟩:=hc k _ b e1 eb
 exact ⟨vs,h1,z,r⟩
theorem br(i:Nat){tb:TE}{fb:Env→Out Dt}(hb:D3 K W tb fb lb):D3 K W (tOp (rIx K) (tVar i) tb) (e2 (IV n (Aa i)) fb Bl) []:=by
 intro μ H0 A0 ρ σ H Q s h
 unfold e2 IV Aa at h
 split at h
 ·exact False.elim h
 ·rename_i l hn e
  simp only [Out.AA] at h
  by_cases hk:∃ k,l=.sh (.ad k)
  ·obtain ⟨k,rfl⟩:=hk
   obtain ⟨v,e4,r4⟩:=s.lo i _ e
   unfold Rep at r4
   obtain ⟨b,eb,rfl⟩:=r4
   refine ⟨_,e4,?_⟩
   cases ed:bV (Ed n ρ) (Lo.sh (.ad k)).d with
   | none=>rw [ed] at h; exact False.elim h
   | some x=>
    rw [ed] at h
    simp only [B3,Out.AA] at h
    refine hb _ _ _ _ _ _ _ s (h.seq fun y _ h2 v2 H2 s2 r2=>?_)
    obtain ⟨d,e3,q⟩:=B6 h2
    obtain ⟨cs,ec,e'⟩:=Option.bind_eq_some_iff.mp (show (Ed n ρ).bind (fun cs=>(cs[k]?).bind Cell.d)=some x from ed)
    obtain ⟨c,e1,e2⟩:=Option.bind_eq_some_iff.mp e'
    cases c with
    | gone=>cases e2
    | dic ks ds=>cases e2; cases y <;> cases e3
    | ins C ns ds=>cases e2; cases y <;> cases e3
    | lst ds=>
     cases e2
     cases y <;> try (cases e3; done)
     rename_i z _
     obtain ⟨vs,h1,_,r⟩:=NZ s ec e1 eb
     have e5:v2=.int z:=r2
     subst e5
     obtain ⟨w,e6,r6⟩:=(r.same s2).at (show atI ds z=some d from e3)
     exact .inl ⟨b,vs,z,w,rfl,rfl,SqL.of (s2 _ _ h1),e6,q _ _ s2 r6⟩
  ·refine X7 (W:=W) i hb μ H0 A0 ρ σ H Q s ?_
   have hd:bV (Ed n ρ) l.d=some l.d:=by
    cases l with
    | sh d=>
     cases d with
     | ad k=>exact absurd ⟨k,rfl⟩ hk
     | _=>rfl
    | ol ds=>rfl
    | od ks ds=>rfl
    | ot ks ds=>rfl
    | mh cs=>exact (hn cs rfl).elim
   rw [hd] at h
   have ev:Aa i ρ=.ok l.d:=by
    unfold Aa
    rw [e]
    cases l with
    | mh cs=>exact (hn cs rfl).elim
    | _=>rfl
   unfold e2
   rw [ev]
   exact h
 ·exact False.elim h
def fS(n:Nat)(x i d:Dt)(ρ:Env):Option Env:=match x,i with
 | .ad k,.int z=>(Ed n ρ).bind fun cs=>match cs[k]? with
  | some (.lst ds)=>(ixN ds.length z).map fun j=>ρ.set n (some (.mh (cs.set k (.lst (ds.set j d)))))
  | _=>none
 | _,_=>none
def KS(n:Nat)(fx fi:Env→Out Dt)(f:Env→XO Dt)(lk:List Nat):Env→SOut:=fun ρ=>xE (f ρ) fun d ρ1=>IL (fx (AQ d lk ρ1)) (AQ d lk ρ1) fun x=>IL (fi (AQ d lk ρ1)) (AQ d lk ρ1) fun i=>match fS n x i d (AQ d lk ρ1) with
 | some ρ'=>.ok .nx ρ'
 | none=>.bad
theorem Wl{te tx ti:TE}{f:Env→XO Dt}{fx fi:Env→Out Dt}(ha:Ml K W S te f lk)(hx:D3 K W tx fx la)(hi:D3 K W ti fi lb):Jc K W (tAsg te (gSub tx ti rSetL)) (KS n fx fi f lk):=by
 intro μ H0 A0 ρ σ H D s h
 unfold KS at h
 refine ha _ _ _ _ _ _ _ s (A9.xt h fun d ρ1 _ h1 μ1 v H1 c1 s1 r1=>?_)
 obtain ⟨s2,r2⟩:=s1.RH r1
 refine hx _ _ _ _ _ _ _ s2 (A9.st s2 (h1.ext c1.xt) fun x _ h2 w H2 g2 rx=>?_)
 have s3:=s2.grow g2
 refine hi _ _ _ _ _ _ _ s3 (A9.st s3 h2 fun i _ h3 w' H3 g3 ri=>?_)
 have s4:=s3.grow g3
 split at h3
 ·rename_i ρ' ep
  unfold fS at ep
  split at ep
  ·rename_i k z _ _
   obtain ⟨cs,ec,ep⟩:=Option.bind_eq_some_iff.mp ep
   split at ep
   ·rename_i ds e1
    obtain ⟨j,ej,rfl⟩:=Option.map_eq_some_iff.mp ep
    unfold Rep at rx
    obtain ⟨b,eb,rfl⟩:=rx
    obtain ⟨vs,hb,h0,r⟩:=NZ s4 ec e1 eb
    refine ⟨b,vs,z,j,rfl,ri,hb,by rw [r.length]; exact ej,?_⟩
    refine h3 _ _ _ (Xt.refl _) (s4.dU (Dm ec) e1 rfl eb rfl fun A' hA=>?_)
    have ow:Bw ⟨K,μ1⟩ (AQ d lk ρ1) σ n b:=⟨_,Dm ec,k,_,e1,rfl,eb⟩
    exact ⟨h0,_,upd_same,(Ah.set j r ((r2.same g2).same g3)).mono (Av.keep ow) hA⟩
   ·cases ep
  ·cases ep
 ·exact False.elim h3
theorem Ah.erase{κ:KM}{A:Ad}:∀ {ds:List Dt} {vs:List V} (i:Nat),Ah κ H A ds vs→Ah κ H A (ds.eraseIdx i) (vs.eraseIdx i)
 | [],_,_,r=>by unfold Ah at r; subst r; exact Ah.nil
 | _ :: _,_,0,r=>by
  unfold Ah at r
  obtain ⟨v,q,rfl,r1,r2⟩:=r
  exact r2
 | _ :: _,_,i + 1,r=>by
  unfold Ah at r
  obtain ⟨v,q,rfl,r1,r2⟩:=r
  exact Ah.cons r1 (Ah.erase i r2)
theorem Ch.one(s:StOk ⟨K,μ⟩ H0 A0 H ρ σ){i:Nat}{l l':Lo}{b:Addr}{u:HO}(hS:i∈S)(e:ρ[i]? = some (some l))(ow:Bw ⟨K,μ⟩ ρ σ i b)(hl:∀ a,Dw ⟨K,μ⟩ l' σ[i]? a→Dw ⟨K,μ⟩ l σ[i]? a):Ch K S σ μ H ρ μ (upd H b u) (ρ.set i (some l')):=by
 refine ⟨Xt.refl _,fun a o q nn=>?_,fun j hj=>List.getElem?_set_ne fun (z:i=j)=>hj (by rw [← z]; exact hS),fun j a hj h=>?_,.inl rfl⟩
 ·rw [upd_ne fun z=>by subst z; exact nn i hS ow]
  exact q
 ·obtain ⟨l2,e1,ho⟩:=h
  by_cases hij:i=j
  ·subst hij
   rw [List.getElem?_set_self (List.getElem?_eq_some_iff.mp e).1] at e1
   cases e1
   exact .inl ⟨i,hj,l,e,hl a ho⟩
  ·rw [List.getElem?_set_ne hij] at e1
   exact .inl ⟨j,hj,l2,e1,ho⟩
def cv(n:Nat)(f:Env→XO (List Dt))(lk:List Nat):Env→XO Dt:=fun ρ=>(f ρ).bind fun ds ρ1=>match Ed n ρ1 with
 | some cs=>if (lk.all (G0 ρ1) || Dt.E7 ds || (Dt.Zf ds && lk.all (Nt ρ1)))=true then .ok (.ad cs.length) (ρ1.set n (some (.mh (cs ++ [.lst ds])))) else .bad
 | none=>.bad
theorem eW{te:TE}{f:Env→XO (List Dt)}(hS:n∈S)(hn:n∉lk)(ha:TXL K W S te f lk):Ml K W S te (cv n f lk) []:=by
 intro μ H0 A0 ρ σ H Q s h
 refine ha _ _ _ _ _ _ _ s (h.seq fun ds ρ1 _ h1 μ1 p vs H1 H2 c1 s1 hs hp hp' r=>?_)
 split at h1
 ·rename_i cs ec
  split at h1
  ·rename_i hc
   have e:=Dm ec
   obtain ⟨nd,hlen,_⟩:=s1.lo n _ e
   have rr:Ah ⟨K,μ1⟩ H2 (fun a=>Av ⟨K,μ1⟩ A0 ρ1 σ [] a∨a=p) ds vs:=by
    rw [Bool.or_eq_true,Bool.or_eq_true,Bool.and_eq_true] at hc
    rcases hc with (hc | hc) | ⟨hc,hl⟩
    ·refine r.BZ fun a z=>z.imp (fun z=>?_) id
     rcases z with z | ⟨i,ni,l,e1,ho⟩
     ·exact .inl z
     ·refine .inr ⟨i,fun q=>?_,l,e1,ho⟩
      have w:=List.all_eq_true.mp hc i q
      unfold G0 at w
      rw [e1] at w
      cases l with
      | sh d=>exact ho
      | _=>cases w
    ·refine Ah.pure (fun a z=>?_) ds vs hc r
     rcases z with z | z
     ·exact (s1.grow hs).Ec z
     ·rw [z,hp']; exact trivial
    ·refine Ah.nl (fun a z=>?_) ds vs hc r
     rcases z with (z | ⟨i,ni,l,e1,ho⟩) | z
     ·exact .inl (.inl (.inl z))
     ·by_cases hi:i∈lk
      ·have w:=List.all_eq_true.mp hl i hi
       unfold Nt at w
       rw [e1] at w
       exact .inr (((s1.grow hs).lo i l e1).W7 w ho)
      ·exact .inl (.inl (.inr ⟨i,hi,l,e1,ho⟩))
     ·exact .inl (.inr z)
   have hm:Xt μ1 (μ1.push p):=⟨fun k a h=>by show (μ1.l ++ [p])[k]? = _; rw [List.getElem?_append_left (List.getElem?_eq_some_iff.mp h).1]; exact h,rfl,fun z=>by exact absurd e (s1.nm z n cs)⟩
   have st:=s1.alloc (c:=.lst ds) e hs hp fun A' hA=>⟨s1.same.free hp,vs,hp',(rr.ext hm).BZ fun a z=>hA a z⟩
   have own':∀ a,Dw ⟨K,μ1.push p⟩ (.mh (cs ++ [.lst ds])) σ[n]? a→Dw ⟨K,μ1⟩ (.mh cs) σ[n]? a∨a=p:=fun a ⟨k,c,f1,f2,f3⟩=>by
    have f3':(μ1.l ++ [p])[k]? = some a:=f3
    by_cases hk:k < cs.length
    ·rw [List.getElem?_append_left hk] at f1
     rw [List.getElem?_append_left (by rw [← hlen]; exact hk)] at f3'
     exact .inl ⟨k,c,f1,f2,f3'⟩
    ·have hk2:=(List.getElem?_eq_some_iff.mp f1).1
     rw [List.length_append,List.length_singleton] at hk2
     rw [List.getElem?_append_right (by rw [← hlen]; show cs.length≤k; omega)] at f3'
     have:k - μ1.l.length=0:=by rw [← hlen]; show k - cs.length=0; omega
     rw [this] at f3'
     cases f3'
     exact .inr rfl
   have ch:Ch K S σ μ1 H1 ρ1 (μ1.push p) H2 (ρ1.set n (some (.mh (cs ++ [.lst ds])))):=by
    refine ⟨hm,fun a o q _=>hs a o q,fun j hj=>List.getElem?_set_ne fun (z:n=j)=>hj (by rw [← z]; exact hS),fun j a hj h=>?_,.inr fun j c q=>by rw [s1.one j n _ _ q e]; exact hS⟩
    ·obtain ⟨l,e1,ho⟩:=h
     by_cases hn:n=j
     ·subst hn
      rw [List.getElem?_set_self (List.getElem?_eq_some_iff.mp e).1] at e1
      cases e1
      exact (own' a ho).imp (fun z=>⟨n,hS,_,e,z⟩) fun z=>by rw [z]; exact hp
     ·rw [List.getElem?_set_ne hn] at e1
      refine .inl ⟨j,hj,l,e1,ho.ext fun q=>?_⟩
      cases l with
      | mh c=>exact absurd (s1.one n j _ _ e e1) hn
      | _=>cases q
   refine h1 _ _ H2 (c1.trans ch) st ?_
   unfold Rep
   refine ⟨p,?_,rfl⟩
   show (μ1.l ++ [p])[cs.length]? = some p
   rw [show cs.length=μ1.l.length from hlen,List.getElem?_append_right (Nat.le_refl _),Nat.sub_self]
   rfl
  ·exact False.elim h1
 ·exact False.elim h1
end
end FD
namespace FD
open PySem L2 PyProof.Rows PySem.Spec
section
variable {K:PySem.W.Frag} {S:List Nat} {σ:L2.St} {μ μ':Mu} {H H' H0:Hp} {ρ:Env} {A0:Ad} {lk la lb:List Nat} {W:WX} {d:Dt} {v:V} {n:Nat} {α β:Type}
theorem fE(i:Nat){tb:TE}{fb:Env→XO Dt}(hi:i∉S)(hb:Ml K W S tb fb lb):Ml K W S (tOp (rIx K) (tVar i) tb) (x2 (xP (Aa i)) fb Bl) []:=by
 intro μ H0 A0 ρ σ H Q s h
 unfold x2 xP Aa at h
 split at h
 ·exact False.elim h
 ·rename_i l hn e
  simp only [Out.Yg,XO.AA] at h
  have hmh:l.UD=false:=by cases l with | mh cs=>exact (hn cs rfl).elim | _=>rfl
  obtain ⟨v,e1,r1⟩:=s.val e hmh
  refine ⟨v,e1,?_⟩
  refine hb _ _ _ _ _ _ _ s (h.seq fun b ρ2 eb h2 μ2 v2 H2 c2 s2 r2=>?_)
  clear eb
  obtain ⟨d,e3,q⟩:=h2.o
  have e2:ρ2[i]? = some (some l):=by rw [c2.env i hi]; exact e
  have lo:=s2.lo i l e2
  cases l with
  | sh d'=>
   obtain ⟨u,e4,r4⟩:=lo
   rw [e1] at e4
   cases e4
   exact TM (K:=K) μ2 H2 (Av ⟨K,μ2⟩ A0 ρ2 σ []) d' b d v v2 Q (fun c z=>s2.LG z) r4 (Xd e3 r2) e3 fun v H' hs r=>q μ2 v H' (c2.grow hs) (s2.grow hs) r
  | ol ds=>
   obtain ⟨a,vs,e4,h0,h1,r4⟩:=lo
   rw [e1] at e4
   cases e4
   cases b <;> try (cases e3; done)
   rename_i k
   have e5:v2=.int k:=r2
   subst e5
   obtain ⟨w,e6,r6⟩:=r4.at (show atI ds k=some d from e3)
   exact .inl ⟨a,vs,k,w,rfl,rfl,SqL.of h1,e6,q μ2 _ _ c2 s2 r6⟩
  | od ks ds=>cases b <;> cases e3
  | ot ks ds=>cases b <;> cases e3
  | mh cs=>cases hmh
 ·exact False.elim h
def Jx(i:Nat)(fi:Env→Out Dt)(f:Env→XO Dt)(lk:List Nat):Env→SOut:=fun ρ=>xE (f ρ) fun d ρ=>match (AQ d lk ρ)[i]? with
 | some (some (.ol ds))=>IL (fi (AQ d lk ρ)) (AQ d lk ρ) fun k=>(match k with
  | .int k=>(match ixN ds.length k with
   | some j=>.ok .nx ((AQ d lk ρ).set i (some (.ol (ds.set j d))))
   | none=>.bad)
  | _=>.bad)
 | _=>.bad
theorem WH{te ti:TE}{f:Env→XO Dt}{fi:Env→Out Dt}{i:Nat}(ha:Ml K W S te f la)(hi:D3 K W ti fi lb):Jc K W (tAsg te (gSub (tVar i) ti rSetL)) (Jx i fi f la):=by
 intro μ H0 A0 ρ σ H D s h
 unfold Jx at h
 refine ha _ _ _ _ _ _ _ s (A9.xt h fun d ρ1 _ h2 μ1 v H1 c1 s1 r1=>?_)
 obtain ⟨s2,r2⟩:=s1.RH r1
 split at h2
 ·rename_i ds e2
  obtain ⟨a,vs,e1,h0,h1,r3⟩:=s2.lo i _ e2
  refine ⟨_,e1,?_⟩
  refine hi _ _ _ _ _ _ _ s2 (A9.st s2 (h2.ext c1.xt) fun k _ h3 w H2 s3 r4=>?_)
  have sg:=s2.grow s3
  split at h3
  ·rename_i kk _
   split at h3
   ·rename_i j ej
    refine ⟨a,vs,kk,j,rfl,r4,s3 _ _ h1,by rw [r3.length]; exact ej,?_⟩
    exact h3 _ _ _ (Xt.refl _) (sg.jv e2 e1 (Ah.set j (r3.same s3) (r2.same s3)))
   ·exact False.elim h3
  ·exact False.elim h3
 ·exact False.elim h2
def TXI(K:PySem.W.Frag)(W:WX)(S:List Nat)(wi:TI)(f:Env→XO (List Dt))(lk:List Nat):Prop:=
 ∀ (μ:Mu) (H0:Hp) (A0:Ad) (ρ:Env) (σ:L2.St) (H:Hp) (R:It→Hp→Prop),StOk ⟨K,μ⟩ H0 A0 H ρ σ→DM K W μ H0 A0 σ (f ρ) (fun ds ρ'=>∀ μ' J H',Ch K S σ μ H ρ μ' H' ρ'→StOk ⟨K,μ'⟩ H0 A0 H' ρ' σ→Walks ⟨K,μ'⟩ (Bs ⟨K,μ'⟩ H' ρ' σ lk) A0 J ds→R J H')→wi σ H R
def PXI(X:Cx)(W:WX)(S:List Nat)(tg iter:Expr)(f:Env→XO (List Dt))(lk:List Nat):Prop:=∃ wi,PI X tg iter wi∧TXI X.K W S wi f lk
def Se(u:Dt→Env→Option Env)(f:Env→XO (List Dt))(lk:List Nat)(b:Env→SOut):Env→SOut:=fun ρ=>xE (f ρ) fun ds ρ=>Bm u b ds (frz lk ρ)
theorem bW{wi:TI}{g:TG}{tb:TS}{u:Dt→Env→Option Env}{f:Env→XO (List Dt)}{b:Env→SOut}{T:List Nat}(hi:TXI K W S wi f lk)(hg:Zq K g u T)(hb:Jc K W tb b):Jc K W (tFor wi g tb) (Se u f lk b):=by
 intro μ0 H0 A0 ρ0 σ Ha D s0 h0
 refine hi _ _ _ _ _ _ _ s0 (A9.xt h0 fun ds ρ _ h1 μ J H1 c1 s w=>?_)
 have h1:=A9.ext c1.xt h1
 obtain ⟨sB,hB⟩:=s.rebase (Same.refl _) lk
 have h2:=h1.weaken hB s.a0
 refine ⟨fun i m σ' H'=>m + i=ds.length∧∃ μ' ρ',Xt μ μ'∧StOk ⟨K,μ'⟩ (Bs ⟨K,μ⟩ H1 ρ σ lk) A0 H' ρ' σ'∧A9 K W μ' (Bs ⟨K,μ⟩ H1 ρ σ lk) A0 (Bm u b (ds.drop i) ρ') D,⟨ds.length,by omega,_,_,Xt.refl _,sB,h2⟩,?_⟩
 rintro i m σ2 H2 ⟨hm,μ2,ρ2,x2,s2,h3⟩
 by_cases hlt:i < ds.length
 ·have hd:ds.drop i=ds[i] :: ds.drop (i + 1):=List.drop_eq_getElem_cons hlt
  rw [hd,NK] at h3
  refine .inr ⟨w.go i H2 s2.same hlt,fun σ' H'=>∃ μ' ρ',Xt μ μ'∧StOk ⟨K,μ'⟩ (Bs ⟨K,μ⟩ H1 ρ σ lk) A0 H' ρ' σ'∧A9 K W μ' (Bs ⟨K,μ⟩ H1 ρ σ lk) A0 (Bm u b (ds.drop (i + 1)) ρ') D,fun σ' H' q=>⟨m - 1,by omega,by omega,q⟩,fun x H3 y=>?_⟩
  obtain ⟨s3,r3⟩:=w.yld i H2 x H3 ds[i] s2.same y (List.getElem?_eq_getElem hlt)
  have r4:Rep ⟨K,μ2⟩ H3 (Av ⟨K,μ2⟩ A0 ρ2 σ2 []) ds[i] x:=Rep.ext x2 <| r3 _ fun a z=>⟨z.elim .inl fun z=>.inr (s2.RX (lk:=[]) z),s2.LG z⟩
  split at h3
  ·exact False.elim h3
  ·rename_i ρ3 e3
   refine hg _ _ _ _ _ _ _ _ _ _ (s2.grow s3) r4 e3 fun σ4 s4 _ _=>?_
   refine hb _ _ _ _ _ _ _ s4 ?_
   cases e:b ρ3 with
   | ok fl ρ'=>
    rw [e] at h3
    cases fl with
    | nx=>exact fun μ' σ' H' y s'=>⟨μ',ρ',x2.trans y,s',h3.ext y⟩
    | ct=>exact fun μ' σ' H' y s'=>⟨μ',ρ',x2.trans y,s',h3.ext y⟩
    | bk=>exact fun μ' σ' H' y s'=>h3 μ' σ' H' y s'
    | rt d=>exact h3
   | exc x ρ'=>rw [e] at h3; exact h3
   | bad=>rw [e] at h3; exact h3
 ·have e:i=ds.length:=by omega
  subst e
  rw [List.drop_length] at h3
  exact .inl ⟨w.stop H2 s2.same,h3 _ σ2 H2 (Xt.refl _) s2⟩
def Jy(f:Env→XO (List Dt)):Env→XO (List Dt):=fun ρ=>(f ρ).bind fun ds ρ1=>(GI (Zo ds)).x ρ1
theorem Zd{a:Dt}{es:List Dt}(e:Zo [a]=some es):∃ j,a=.int j∧Fi j=true∧es=JL 0 j.toNat:=by
 cases a <;> try (cases e; done)
 rename_i j
 rw [Jz] at e
 obtain ⟨c,rfl⟩:=Bq e
 exact ⟨j,rfl,c,rfl⟩
theorem Z3{ta:TA}{f:Env→XO (List Dt)}(hn:∀ ρ ds ρ',f ρ=.ok ds ρ'→ds.length=1)(ha:ju K W S ta f lk):TXI K W S (iRng1 ta) (Jy f) []:=by
 intro μ H0 A0 ρ σ H R s h
 unfold Jy at h
 refine ha _ _ _ _ _ _ _ s (h.seq fun ds ρ1 e0 h1 μ1 vs H1 c1 s1 r1=>?_)
 obtain ⟨es,e,q⟩:=h1.o
 match ds,hn ρ ds ρ1 e0,e,r1 with
 | [a],_,e,r1=>
  obtain ⟨j,rfl,c,rfl⟩:=Zd e
  obtain ⟨v,rfl,r⟩:=Dg r1
  have e1:v=.int j:=r
  subst e1
  rw [Qb] at c
  exact ⟨j,rfl,c.1,c.2,q μ1 _ H1 c1 s1 (RZ 0 _ _)⟩
theorem je{k:Nat}{f:Env→Out (List Dt)}(h:∀ ρ ds,f ρ=.ok ds→ds.length=k):∀ ρ ds ρ',xP f ρ=.ok ds ρ'→ds.length=k:=fun ρ ds ρ' e=>by
 unfold xP at e
 cases hf:f ρ with
 | ok a=>rw [hf] at e; cases e; exact h ρ _ hf
 | exc x=>rw [hf] at e; cases e
 | bad=>rw [hf] at e; cases e
theorem YH{k:Nat}{f:Env→XO Dt}{g:Env→XO (List Dt)}(h:∀ ρ ds ρ',g ρ=.ok ds ρ'→ds.length=k):∀ ρ ds ρ',LZ f g ρ=.ok ds ρ'→ds.length=k + 1:=fun ρ ds ρ' e=>by
 unfold LZ at e
 cases hf:f ρ with
 | ok a ρ1=>
  rw [hf] at e
  simp only [XO.AA] at e
  cases hg:g ρ1 with
  | ok as ρ2=>
   rw [hg] at e
   cases e
   rw [List.length_cons,h _ _ _ hg]
  | exc x ρ=>rw [hg] at e; cases e
  | bad=>rw [hg] at e; cases e
 | exc x ρ=>rw [hf] at e; cases e
 | bad=>rw [hf] at e; cases e
end
end FD
namespace FD
open PySem L2 PyProof.Rows PySem.Spec
section
variable {K:PySem.W.Frag} {κ:KM} {S:List Nat} {σ:L2.St} {μ μ':Mu} {H H' H0:Hp} {ρ:Env} {A0:Ad} {lk la lb:List Nat} {W:WX} {d:Dt} {v:V} {n:Nat} {D:Addr} {u:HO}
theorem StOk.kr(s:StOk κ H0 A0 H ρ σ)(hD:H D=none)(mu:Mut (some u)):StOk κ (upd H0 D u) (fun a=>A0 a∨a=D) (upd H D u) ρ σ:=by
 have h0:H0 D=none:=s.same.free hD
 have no:∀ i,¬ Bw κ ρ σ i D:=fun i h=>by
  obtain ⟨⟨o,e⟩,_⟩:=s.Ci h
  rw [hD] at e
  cases e
 refine ⟨fun a o e=>?_,fun a z=>?_,s.len,fun i l e=>FA.gen (F:=κ.K) (m:=κ.mu) (m':=κ.mu) (Xt.refl _) (fun _=>rfl) (fun a o _ q=>?_) (fun a z=>?_) (fun a ho o q=>?_) (fun a ho z=>?_) (s.lo i l e),s.ap,s.one,s.nm⟩
 ·by_cases h:a=D
  ·subst h; rw [upd_same] at e ⊢; exact e
  ·rw [upd_ne h] at e ⊢; exact s.same a o e
 ·rcases z with z | z
  ·rw [upd_ne fun h=>by subst h; have q:=s.a0 a z; rw [h0] at q; exact q]
   exact s.a0 a z
  ·rw [z,upd_same]; exact mu
 ·rw [upd_ne (ne_of_none q hD)]; exact q
 ·rcases z with (z | z) | z
  ·exact .inl (.inl z)
  ·rw [z]; exact .inr hD
  ·exact .inl (.inr z)
 ·rw [upd_ne (ne_of_none q hD)]; exact q
 ·rw [upd_ne fun h=>by subst h; exact no i ⟨l,e,ho⟩]; exact z
def delD(D:Addr)(H:Hp):Hp:=fun a=>if a=D then none else H a
theorem KW{a:Addr}(h:a≠D):delD D H a=H a:=by unfold delD; rw [if_neg h]
theorem S2:delD D H D=none:=by unfold delD; rw [if_pos rfl]
theorem StOk.outD(s:StOk κ (upd H0 D u) (fun a=>A0 a∨a=D) H ρ σ)(h0:H0 D=none)(ha:∀ a,A0 a→Mut (H0 a)):StOk κ H0 A0 (delD D H) ρ σ:=by
 have no:∀ i a,Bw κ ρ σ i a→a≠D:=fun i a h z=>by
  have q:=(s.Ci h).2
  rw [z,upd_same] at q
  cases q
 refine ⟨fun a o e=>?_,ha,s.len,fun i l e=>FA.gen (F:=κ.K) (m:=κ.mu) (m':=κ.mu) (Xt.refl _) (fun _=>rfl) (fun a o n q=>?_) (fun a z=>?_) (fun a ho o q=>?_) (fun a ho z=>?_) (s.lo i l e),s.ap,s.one,s.nm⟩
 ·have ne:=ne_of_none e h0
  rw [KW ne]
  exact s.same a o (by rw [upd_ne ne]; exact e)
 ·rw [KW fun z=>by subst z; exact n (.inl (.inr rfl))]; exact q
 ·exact .inl (z.imp .inl id)
 ·rw [KW (no i a ⟨l,e,ho⟩)]; exact q
 ·rw [upd_ne (no i a ⟨l,e,ho⟩)] at z; exact z
end
end FD
namespace FD
open PySem L2 PyProof.Rows PySem.Spec
section
variable {X:Cx} {W:WX} {S:List Nat} {e a b c iter tg:Expr} {f fa fb fc:Env→XO Dt} {fs:Env→XO (List Dt)} {ft fu:Env→XO Bool} {lk la lb lc:List Nat} {p pos:Pos} {st:Stmt} {rest body els:List Stmt} {g h:Env→SOut} {u:Dt→Env→Option Env} {es:List Expr} {n:Nat}
theorem I7{f:Env→Out Dt}(h:Bv X W e f lk):KP X W S e (xP f) lk:=by
 obtain ⟨t,p,d⟩:=h
 exact ⟨_,p,lJ d⟩
theorem CU{f:Env→Out (List Dt)}(h:JN X W es f lk):j7 X W S es (xP f) lk:=by
 obtain ⟨t,p,d⟩:=h
 exact ⟨_,p,kL d⟩
theorem NV(ha:KP X W S a fa la)(hb:KP X W S b fb lb)(hd:∀ i,i∈S→i∉la:=by decide):KP X W S (.BinOp a .Add b pos) (x2 fa fb AV) (la ++ lb):=by
 obtain ⟨ta,pa,da⟩:=ha
 obtain ⟨tb,pb,db⟩:=hb
 exact ⟨_,pe_op W9 pa pb,gQ (Sx.or TK (Sx.or XD (Sx.or X1 X4))) da db hd⟩
theorem h7(ha:KP X W S a fa la)(hb:KP X W S b fb lb)(hd:∀ i,i∈S→i∉la:=by decide):KP X W S (.BinOp a .Sub b pos) (x2 fa fb (OL (· - ·))) []:=by
 obtain ⟨ta,pa,da⟩:=ha
 obtain ⟨tb,pb,db⟩:=hb
 exact ⟨_,pe_op op_sub pa pb,iF TK Vr da db hd⟩
theorem px_c{op:CmpOp}{g:Dt→Dt→Option Bool}(h:Cmp X op g)(ha:KP X W S a fa la)(hb:KP X W S b fb lb)(hd:∀ i,i∈S→i∉la:=by decide)(hm:behindInMarks op b=false:=by first | exact nomark _ | rfl):KP X W S (.Compare a [op] [b] pos) (xT (WU fa fb g)) []:=by
 obtain ⟨r,h1,h2⟩:=h.ex
 obtain ⟨ta,pa,da⟩:=ha
 obtain ⟨tb,pb,db⟩:=hb
 exact ⟨_,pe_cmpR h1 pa pb hm,dB h2 da db hd⟩
theorem X2{op:CmpOp}{g:Dt→Dt→Option Bool}(h:Cmp X op g)(ha:KP X W S a fa la)(hb:KP X W S b fb lb)(hd:∀ i,i∈S→i∉la:=by decide)(hm:behindInMarks op b=false:=by first | exact nomark _ | rfl):ka X W S (.Compare a [op] [b] pos) (WU fa fb g):=by
 obtain ⟨r,h1,h2⟩:=h.ex
 obtain ⟨ta,pa,da⟩:=ha
 obtain ⟨tb,pb,db⟩:=hb
 exact ⟨_,pt_cmpR h1 pa pb hm,jX h2 da db hd⟩
theorem dR(ha:ka X W S a ft):ka X W S (.UnaryOp .Not a pos) (Uu ft):=by
 obtain ⟨ta,pa,da⟩:=ha
 exact ⟨_,pt_not pa,fO da⟩
theorem lC{K:PySem.W.Frag}{ta:TE}(ha:Ml K W S ta fa la):iS K W S (fun σ H Q=>ta σ H fun x H1=>∃ k,TruV K x H1 k∧Q k H1) (jR fa AR):=by
 intro μ H0 A0 ρ σ H Q s h
 refine ha _ _ _ _ _ _ _ s (h.seq fun a ρ1 _ h1 μ1 v1 H1 c1 s1 r1=>?_)
 obtain ⟨k,e,q⟩:=h1.o
 exact ⟨k,Yc r1 e,q μ1 H1 c1 s1⟩
theorem kl(ha:KP X W S a fa la)(he:∀ whole,isTrue a X.env whole=(do let v ← whole; standAt a.pos; holding [v] (truthy v)):=by intro _; rfl):ka X W S a (jR fa AR):=by
 obtain ⟨ta,pa,da⟩:=ha
 exact ⟨_,pt_truth pa he,lC da⟩
theorem aG(ha:KP X W S e fa la)(hr:j7 X W S es fs lb)(hd:∀ i,i∈S→i∉la:=by decide)(hs:starEach (e :: es) X.env=(false,eval e X.env) :: starEach es X.env:=by rfl):j7 X W S (e :: es) (LZ fa fs) (la ++ lb):=by
 obtain ⟨ta,pa,da⟩:=ha
 obtain ⟨tr,pr,dr⟩:=hr
 exact ⟨_,pa_cons pa pr hs,ZN da dr hd⟩
theorem cu(h:j7 X W S es fs lk):PXL X W S (.List es pos) (cA fs) lk:=by
 obtain ⟨ta,pa,da⟩:=h
 exact ⟨_,pe_lst pa,cZ da⟩
theorem i8(h:PXL X W S e fs lk)(hS:n∈S:=by decide)(hn:n∉lk:=by decide):KP X W S e (cv n fs lk) []:=by
 obtain ⟨ta,pa,da⟩:=h
 exact ⟨_,pa,eW hS hn da⟩
theorem VM(ha:KP X W S a fa la)(hb:KP X W S b fb lb)(hd:∀ i,i∈S→i∉la:=by decide)(hs:PlainIx b:=by exact fun _ _=>rfl):KP X W S (.Subscript a b pos) (x2 fa fb Bl) (la ++ lb):=by
 obtain ⟨ta,pa,da⟩:=ha
 obtain ⟨tb,pb,db⟩:=hb
 exact ⟨_,pe_ix ix_seq pa pb hs,gQ TM da db hd⟩
theorem g6(i:Nat){x:Str}(hb:KP X W S b fb lb)(hi:i∉S:=by decide)(hN:X.N[i]? = some x:=by rfl)(hv:Vis X.env.scope x:=by first | exact Or.inl rfl | exact Or.inr (Or.inl rfl) | exact Or.inr (Or.inr rfl))(hd:(x == ("__debug__" : Str))=false:=by decide)
  (hcd:(x == ("__classdict__" : Str))=false:=by decide) (hs:PlainIx b:=by exact fun _ _=>rfl):KP X W S (.Subscript (.Name x p) b pos) (x2 (xP (Aa i)) fb Bl) []:=by
 obtain ⟨tb,pb,db⟩:=hb
 exact ⟨_,pe_ix ix_seq (pe_var hN hv hd hcd) pb hs,fE i hi db⟩
theorem Hv(n i:Nat){x:Str}{fb:Env→Out Dt}(hb:Bv X W b fb lb)(hN:X.N[i]? = some x:=by rfl)(hv:Vis X.env.scope x:=by first | exact Or.inl rfl | exact Or.inr (Or.inl rfl) | exact Or.inr (Or.inr rfl))(hd:(x == ("__debug__" : Str))=false:=by decide)
  (hcd:(x == ("__classdict__" : Str))=false:=by decide) (hs:PlainIx b:=by exact fun _ _=>rfl):Bv X W (.Subscript (.Name x p) b pos) (e2 (IV n (Aa i)) fb Bl) []:=by
 obtain ⟨tb,pb,db⟩:=hb
 exact ⟨_,pe_ix ix_seq (pe_var hN hv hd hcd) pb hs,br i db⟩
theorem A3{x:Str}{k j:Nat}{φ:List Dt→List Cell→MO}(c:ClM X.prog X.w X.K X.mg X.base x k φ)(tk:L2N.Takes X W)(hr:Room j X.A)(hk:k≤j)(hg:Gl X x)(ha:j7 X W S (e :: es) fs lk)(hS:n∈S:=by decide)(hn:n∉lk:=by decide)(hdb:(x == ("__debug__" : Str))=false:=by decide)
  (he:starEach (e :: es) X.env=(false,eval e X.env) :: starEach es X.env:=by rfl) (hpl:(backTo pos (starEach es X.env)).any (·.1)=false:=by rfl):KP X W S (.Call (.Name x p) (e :: es) [] pos) (Az n φ fs lk) []:=by
 obtain ⟨f,F,hm,kp⟩:=c.ex
 obtain ⟨ta,pa,da⟩:=ha
 refine ⟨_,⟨fun pins s σ H Q I h=>?_⟩,Yq hS hn da⟩
 refine wpAny_Call_Name_kw (ld_glob I hg hm ?_ hdb)
 refine PySem.W.callWith_K (h₀:=X.base) I.ok.mod.kin kp (thn (pa.run pos pins s σ H _ I h) fun us s1 ⟨vs,H1,I1,r,q⟩=>⟨I1.kIn,?_⟩) he hpl
 exact IQ F (hr.mono hk) (L2N.passAt tk σ) I1 r q
theorem Wg(h:KP X W S e f lk):Nq X W (.Return (some e) pos) (Ss f lk):=by
 obtain ⟨t,p,d⟩:=h
 exact ⟨_,ps_ret p,ZF d⟩
theorem UG(hc:ka X W S c ft)(ha:JM X W body g)(hb:JM X W els h):Nq X W (.If c body els pos) (OH ft g h):=by
 obtain ⟨t,p,d⟩:=hc
 obtain ⟨t1,p1,d1⟩:=ha
 obtain ⟨t2,p2,d2⟩:=hb
 exact ⟨_,ps_if p p1 p2,eU d d1 d2⟩
theorem Eh(i:Nat){x:Str}{pos':Pos}(hN:X.N.Nodup)(h:KP X W S e f lk)(hi:X.N[i]? = some x:=by rfl)(hx:Loc X.env.scope x:=by first | exact Or.inl rfl | exact Or.inr rfl)(hs:swapsWith e (some (.Name x pos')) pos.line X.env=pure false:=by rfl)
  (hf:X.fn x=true∨X.env.scope.names.lookup x=some .local:=by first | exact .inl rfl | exact .inr rfl | assumption):Nq X W (.Assign [.Name x pos'] e pos) (BO i f lk):=by
 obtain ⟨t,p,d⟩:=h
 exact ⟨_,ps_set hN hi hx p hs hf,ak d⟩
theorem Zt(i:Nat){x:Str}{p1 p2 p3:Pos}(h:KP X W S e f lk)(hi:i∉S:=by decide)(hN:X.N[i]? = some x:=by rfl)(hv:Vis X.env.scope x:=by first | exact Or.inl rfl | exact Or.inr (Or.inl rfl) | exact Or.inr (Or.inr rfl))(hd:(x == ("__debug__" : Str))=false:=by decide)
  (hcd:(x == ("__classdict__" : Str))=false:=by decide) (hs:starEach [e] X.env=(false,eval e X.env) :: starEach [] X.env:=by rfl) (hbase:attributeBase (.Name x p1) "append" X.env (eval (.Name x p1) X.env)=eval (.Name x p1) X.env:=by rfl)
  (hfew:((backTo p3 (starEach [e] X.env)).all (fun x=>!x.1) && (backToKw p3 (keywordEach [] X.env)).all (fun x=>x.1.isSome)
   && decide (([e]:List Expr).length + ([]:List Keyword).length + (if ([]:List Keyword).isEmpty then 0 else 1) < 30))=true:=by rfl) (hline:(p2.endLine == p3.line)=true:=by rfl) (hsw:swapsWith (.Call (.Attribute (.Name x p1) "append" p2) [e] [] p3) none pos.line X.env=pure false:=by rfl):Nq X W (.Expr (.Call (.Attribute (.Name x p1) "append" p2) [e] [] p3) pos) (FE i f lk):=by
 obtain ⟨t,p,d⟩:=h
 exact ⟨_,ps_expr (pe_bm PySem.F.plainAttrs_list PySem.F.slot_list_append PySem.F.type_list_append mt_append (pe_var hN hv hd hcd) (pa_cons p pa_nil hs) hbase hfew hline hs rfl) hsw,U9 d hi⟩
theorem bS(i:Nat){x:Str}{p1 p2:Pos}{fa:Env→Out Dt}(h:KP X W S e f lk)(hi:Bv X W a fa la)(hN:X.N[i]? = some x:=by rfl)(hv:Vis X.env.scope x:=by first | exact Or.inl rfl | exact Or.inr (Or.inl rfl) | exact Or.inr (Or.inr rfl))(hd:(x == ("__debug__" : Str))=false:=by decide)
  (hcd:(x == ("__classdict__" : Str))=false:=by decide) (ha:∀ v,assign (.Subscript (.Name x p1) a p2) X.env v=(do
   let ov ← holding [v] (eval (.Name x p1) X.env)
   let iv ← holding [v,ov] (eval a X.env)
   standAt p2
   holding [v,ov,iv] (setItem ov iv v)
   release [v,ov,iv] []):=by intro _; rfl) (hs:swapsWithSole [.Subscript (.Name x p1) a p2] e pos.line X.env=pure false:=by rfl) (hw:swappedStores [.Subscript (.Name x p1) a p2] e X.env=pure none:=by rfl)
  (h1:(assignEach [.Subscript (.Name x p1) a p2] X.env).map (·.2)=[assign (.Subscript (.Name x p1) a p2) X.env]:=by rfl):Nq X W (.Assign [.Subscript (.Name x p1) a p2] e pos) (Jx i fa f lk):=by
 obtain ⟨t,p,d⟩:=h
 obtain ⟨t',p',d'⟩:=hi
 exact ⟨_,ps_asg p (pg_sub (pe_var hN hv hd hcd) p' set_list ha) hs hw h1,WH d d'⟩
theorem Uy(n:Nat){o:Expr}{p2:Pos}{fo fa:Env→Out Dt}(h:KP X W S e f lk)(ho:Bv X W o fo lb)(hi:Bv X W a fa la) (ha:∀ v,assign (.Subscript o a p2) X.env v=(do
   let ov ← holding [v] (eval o X.env)
   let iv ← holding [v,ov] (eval a X.env)
   standAt p2
   holding [v,ov,iv] (setItem ov iv v)
   release [v,ov,iv] []):=by intro _; rfl) (hs:swapsWithSole [.Subscript o a p2] e pos.line X.env=pure false:=by rfl) (hw:swappedStores [.Subscript o a p2] e X.env=pure none:=by rfl)
  (h1:(assignEach [.Subscript o a p2] X.env).map (·.2)=[assign (.Subscript o a p2) X.env]:=by rfl):Nq X W (.Assign [.Subscript o a p2] e pos) (KS n fo fa f lk):=by
 obtain ⟨t,p,d⟩:=h
 obtain ⟨t',p',d'⟩:=hi
 obtain ⟨t2,q2,d2⟩:=ho
 exact ⟨_,ps_asg p (pg_sub q2 p' set_list ha) hs hw h1,Wl d d2 d'⟩
theorem iu{T:List Nat}(hp:PassesOwn (model X.prog X.w) X.A X.env X.xe)(hc:X.calm=true)(hi:PXI X W S tg iter fs lk)(hg:Wt X tg u T)(hb:JM X W body g)(hs:∀ x,foldedSetIterable iter X.env x=pure x:=by intro _; rfl):Nq X W (.For tg iter body [] pos) (Se u fs lk g):=by
 obtain ⟨t,p,d⟩:=hi
 obtain ⟨t',p',d'⟩:=hg
 obtain ⟨t2,p2,d2⟩:=hb
 exact ⟨_,ps_for hp hc p p' p2 hs,bW d d' d2⟩
theorem Z9(hg:Gl X "range")(hm:X.mg "range" = none)(ha:KP X W S a fa la)(hs:starEach [a] X.env=[(false,eval a X.env)]:=by rfl)(hd:∀ i,i∈S→i∉la:=by decide):PXI X W S tg (.Call (.Name "range" p) [a] [] pos) (Jy (LZ fa (xP Ag))) []:=by
 obtain ⟨ta,pa,da⟩:=aG (es:=[]) ha (CU Af) hd hs
 exact ⟨_,pi_range1 hg hm pa hs,Z3 (YH (je Yb)) da⟩
end
def cX(K:PySem.W.Frag)(W:WX)(S:List Nat)(f:Env→XO Dt)(lk:List Nat):TE:=fun σ H Q=>∃ (μ:Mu) (H0:Hp) (A0:Ad) (ρ:Env),StOk ⟨K,μ⟩ H0 A0 H ρ σ∧DM K W μ H0 A0 σ (f ρ) (RM K S lk μ H0 A0 ρ σ H Q)
def cXT(K:PySem.W.Frag)(W:WX)(S:List Nat)(f:Env→XO Bool):TT:=fun σ H Q=>∃ (μ:Mu) (H0:Hp) (A0:Ad) (ρ:Env),StOk ⟨K,μ⟩ H0 A0 H ρ σ∧DM K W μ H0 A0 σ (f ρ) (RMt K S μ H0 A0 ρ σ H Q)
def ky(X:Cx)(W:WX)(S:List Nat)(es:List Expr)(f:Env→XO Bool):Prop:=∃ tt,PTs X es tt∧iS X.K W S tt f
section
variable {X:Cx} {W:WX} {S:List Nat} {e:Expr} {es:List Expr} {f:Env→XO Dt} {t:Env→XO Bool} {u:Dt→Env→Option Env} {T lk lt le:List Nat} {n:Nat}
theorem KP.NC(h:KP X W S e f lk):PE X e (cX X.K W S f lk):=by
 obtain ⟨te,pe,de⟩:=h
 exact ⟨fun pins s σ H Q I ⟨μ,H0,A0,ρ,so,po⟩=>pe.run pins s σ H Q I (de μ H0 A0 ρ σ H Q so po)⟩
theorem ky.NC(h:ky X W S es t):PTs X es (cXT X.K W S t):=by
 obtain ⟨te,pe,de⟩:=h
 exact ⟨fun pins s σ H Q I ⟨μ,H0,A0,ρ,so,po⟩=>pe.run pins s σ H Q I (de μ H0 A0 ρ σ H Q so po)⟩
end
end FD
namespace FD
open PySem L2 PyProof.Rows PySem.Spec
mutual
def Dt.na:Dt→Bool
 | .ad _=>false
 | .tup ds=>Dt.IA ds
 | .ptp ds=>Dt.IA ds
 | .ntp ds=>Dt.IA ds
 | .lst ds=>Dt.IA ds
 | .fls ds=>Dt.IA ds
 | .dic _ ds=>Dt.IA ds
 | .dit _ ds=>Dt.IA ds
 | .obj _ _ ds=>Dt.IA ds
 | .exn _ _ _ _ ds=>Dt.IA ds
 | _=>true
def Dt.IA:List Dt→Bool
 | []=>true
 | d :: ds=>d.na && Dt.IA ds
end
section
variable {F:PySem.W.Frag} {m m':Mu} {H:Hp} {A:Ad}
mutual
theorem Rep.VO:∀ (d:Dt) (v:V),d.na=true→Rep ⟨F,m⟩ H A d v→Rep ⟨F,m'⟩ H A d v
 | .non,_,_,h=>h
 | .bl _,_,_,h=>h
 | .int _,_,_,h=>h
 | .str _,_,_,h=>h
 | .ty _,_,_,h=>h
 | .cls _,_,_,h=>h
 | .ad _,_,p,_=>by simp [Dt.na] at p
 | .tup ds,_,p,h=>by
  unfold Rep at h ⊢
  obtain ⟨a,vs,e,h1,h2⟩:=h
  exact ⟨a,vs,e,h1,Ah.VO ds vs (by unfold Dt.na at p; exact p) h2⟩
 | .ptp ds,_,p,h=>by
  unfold Rep at h ⊢
  obtain ⟨a,vs,e,h1,h2⟩:=h
  exact ⟨a,vs,e,h1,Ah.VO ds vs (by unfold Dt.na at p; exact p) h2⟩
 | .ntp ds,_,p,h=>by
  unfold Rep at h ⊢
  obtain ⟨a,vs,e,h1,h2⟩:=h
  exact ⟨a,vs,e,h1,Ah.VO ds vs (by unfold Dt.na at p; exact p) h2⟩
 | .lst ds,_,p,h=>by
  unfold Rep at h ⊢
  obtain ⟨a,vs,e,x,y,h2⟩:=h
  exact ⟨a,vs,e,x,y,Ah.VO ds vs (by unfold Dt.na at p; exact p) h2⟩
 | .fls ds,_,p,h=>by
  unfold Rep at h ⊢
  obtain ⟨a,vs,e,h1,h2⟩:=h
  exact ⟨a,vs,e,h1,Ah.VO ds vs (by unfold Dt.na at p; exact p) h2⟩
 | .dic ks ds,_,p,h=>by
  unfold Rep at h ⊢
  obtain ⟨a,kvs,e,x,y,h1,h2⟩:=h
  exact ⟨a,kvs,e,x,y,h1,Ah.VO ds _ (by unfold Dt.na at p; exact p) h2⟩
 | .dit ks ds,_,p,h=>by
  unfold Rep at h ⊢
  obtain ⟨a,kvs,e,x,y,h1,h2⟩:=h
  exact ⟨a,kvs,e,x,y,h1,Ah.VO ds _ (by unfold Dt.na at p; exact p) h2⟩
 | .exn a od C ns ds,_,p,h=>by
  unfold Rep at h ⊢
  obtain ⟨fs,e,h1,h2,h3⟩:=h
  exact ⟨fs,e,h1,h2,Ah.VO ds _ (by unfold Dt.na at p; exact p) h3⟩
 | .obj C ns ds,_,p,h=>by
  unfold Rep at h ⊢
  obtain ⟨a,dx,fs,e,x,y,h1,h2⟩:=h
  exact ⟨a,dx,fs,e,x,y,h1,Ah.VO ds _ (by unfold Dt.na at p; exact p) h2⟩
theorem Ah.VO:∀ (ds:List Dt) (vs:List V),Dt.IA ds=true→Ah ⟨F,m⟩ H A ds vs→Ah ⟨F,m'⟩ H A ds vs
 | [],_,_,h=>h
 | d :: ds,_,p,h=>by
  unfold Ah at h ⊢
  obtain ⟨v,r,e,h1,h2⟩:=h
  unfold Dt.IA at p
  rw [Bool.and_eq_true] at p
  exact ⟨v,r,e,Rep.VO d v p.1 h1,Ah.VO ds r p.2 h2⟩
end
end
@[simp] theorem na_non:Dt.non.na=true:=rfl
@[simp] theorem U3(b:Bool):(Dt.bl b).na=true:=rfl
@[simp] theorem P6(b:Int):(Dt.int b).na=true:=rfl
@[simp] theorem Qd(b:Str):(Dt.str b).na=true:=rfl
@[simp] theorem na_cls(b:Addr):(Dt.cls b).na=true:=rfl
@[simp] theorem na_ptp(b:List Dt):(Dt.ptp b).na=Dt.IA b:=by rw [Dt.na]
@[simp] theorem na_lst(b:List Dt):(Dt.lst b).na=Dt.IA b:=by rw [Dt.na]
@[simp] theorem na_fls(b:List Dt):(Dt.fls b).na=Dt.IA b:=by rw [Dt.na]
@[simp] theorem na_dic(k:List Key)(b:List Dt):(Dt.dic k b).na=Dt.IA b:=by rw [Dt.na]
@[simp] theorem na_dit(k:List (List Key))(b:List Dt):(Dt.dit k b).na=Dt.IA b:=by rw [Dt.na]
@[simp] theorem na_obj(C:Addr)(n:List Str)(b:List Dt):(Dt.obj C n b).na=Dt.IA b:=by rw [Dt.na]
@[simp] theorem nas_nil:Dt.IA []=true:=rfl
@[simp] theorem ar(d:Dt)(b:List Dt):Dt.IA (d :: b)=(d.na && Dt.IA b):=by rw [Dt.IA]
theorem ik{ds:List Dt}(h:∀ d∈ds,d.na=true):Dt.IA ds=true:=by
 induction ds with
 | nil=>rfl
 | cons d ds ih=>
  rw [ar,h d List.mem_cons_self,ih fun e he=>h e (List.mem_cons_of_mem _ he)]
  rfl
theorem GN{α:Type}{f:α→Dt}(h:∀ x,(f x).na=true)(xs:List α):Dt.IA (xs.map f)=true:=ik fun d hd=>by
 obtain ⟨x,_,rfl⟩:=List.mem_map.mp hd
 exact h x
def QP(n:Nat)(g:Env→SOut)(ds:List Dt):Out Dt:=if Dt.IA ds=true then (match g (ds.map (fun d=>some (Lo.sh d)) ++ List.replicate (n - ds.length) none ++ [some (.mh [])]) with
 | .ok .nx _=>.ok .non
 | .ok (.rt d) _=>if d.na=true then .ok d else .bad
 | .exc x _=>.exc x
 | _=>.bad) else .bad
section
variable {P:Program} {w:World} {K:PySem.W.Frag} {mg:Str→Option Value} {base:Heap} {H:Hp} {A:Ad} {μ:Mu}
theorem WM{κ:KM}{a:Addr}:¬ Lv κ [] a:=fun ⟨k,c,e,_⟩=>by simp at e
theorem YS{N:List Str}{n:Nat}{ds:List Dt}{vs:List V}{g:Env→SOut}{ts:TS}{Q:VK}{E:XK}(hN:N.length=n + 1)(hl:ds.length≤n)(hd:Jc K (fun c d _ H'=>E c d H') ts g)(r:Ah ⟨K,μ⟩ H A ds vs)(ha:∀ a,A a→Mut (H a))
  (h:match QP n g ds with
   | .ok d=>∀ v H',Same H H'→Rep ⟨K,μ⟩ H' A d v→Q v H'
   | .exc x=>∀ c od H',Same H H'→Qu K H' x c od→E c od H'
   | .bad=>False):ts { nx:=fun _ H'=>Q .non H',rt:=Q } (L2.start N vs) H:=by
 unfold QP at h
 by_cases hna:Dt.IA ds=true
 case neg=>rw [if_neg hna] at h; exact False.elim h
 rw [if_pos hna] at h
 have r':Ah ⟨K,⟨[],false⟩⟩ H (fun a=>A a∨Lv ⟨K,⟨[],false⟩⟩ [] a) ds vs:=(Ah.VO ds vs hna r).BZ fun a z=>z.elim id fun z=>absurd z WM
 have hm:FA ⟨K,⟨[],false⟩⟩ kA H (fun a=>A a∨Lv ⟨K,⟨[],false⟩⟩ [] a) (.mh []) none:=⟨fun _ _ _ _ _ e=>by simp at e,rfl,fun _ _ _ e=>by simp at e⟩
 have hH:Hm ⟨K,⟨[],false⟩⟩ [] H=H:=by
  funext a
  unfold Hm
  rw [if_neg WM]
 have st:=Sm hN hl r' hm ha (fun a _=>WM) rfl
 rw [hH] at st
 refine hd _ _ A _ _ H _ st ?_
 cases e:g (ds.map (fun d=>some (Lo.sh d)) ++ List.replicate (n - ds.length) none ++ [some (.mh [])]) with
 | ok fl ρ=>
  rw [e] at h
  cases fl with
  | nx=>exact fun μ' σ H' y s'=>h .non H' s'.same rfl
  | rt d=>
   intro μ' v σ H' y s' r''
   simp only at h
   by_cases hd:d.na=true
   ·rw [if_pos hd] at h
    exact h v H' s'.same (Rep.VO d v hd (r''.BZ fun a z=>.inl z))
   ·rw [if_neg hd] at h
    exact False.elim h
  | bk=>exact h.elim
  | ct=>exact h.elim
 | exc x ρ=>
  rw [e] at h
  exact fun μ' σ H' c od y s' r'=>h c od H' s'.same r'
 | bad=>rw [e] at h; exact h.elim
theorem Xn{x qual:Str}{params:Arguments}{body:List Stmt}{scope:Scope}{dvs:List V}{kws:List (Str × V)}{f:Addr}{fd:FuncData}{N ps:List Str}{k n:Nat}{g:Env→SOut}(F:FunD K x qual params body scope dvs kws f fd)(S:FnScope N ps scope)(hN:N.length=n + 1)(hp:ps.length≤n)
  (hb:∀ (cdv:Value) (A:Around) (outer:List PySem.Env) (s:Shared) (H:Hp) (E:XK),Room k (A.deeper (envOfC qual scope s.heap.objs.size f cdv)) →
   JM (cxOf (L2N.CX P w) P w K mg base N qual scope f cdv A outer s H E) (fun c d _ H'=>E c d H') body g):
  FnOk P w K mg base (L2N.CX P w) (k + 1) f fd ps (DA K ps.length (QP n g)):=by
 refine F.ok S (fun vs H Q E h=>?_) (fun cdv A outer s H vs Q E hr h=>?_)
 ·obtain ⟨ds,A,μ,r,hl,_⟩:=h
  rw [r.length,hl]
 ·obtain ⟨ds,A',μ,r,hl,ha,h⟩:=h
  obtain ⟨ts,hp',hdd⟩:=hb cdv A outer s H E hr
  exact ⟨ts,hp',YS hN (by rw [hl]; exact hp) hdd r ha h⟩
end
structure FldC (K:PySem.W.Frag) (C:Addr) (f:Str):Prop where
 cls:Cls K C
 no:NoAttr K C f
def DX(Cs:List Addr)(f:Str):Dt→Option Dt
 | .obj C ns ds=>if C∈Cs then (ns.zip ds).lookup f else none
 | _=>none
section
variable {K:PySem.W.Frag} {S:List Nat} {σ:L2.St} {μ μ':Mu} {H H' H0:Hp} {ρ:Env} {A0:Ad} {lk la lb:List Nat} {W:WX} {d:Dt} {v:V} {n:Nat}
theorem dO{te:TE}{fe:Env→Out Dt}{Cs:List Addr}{f:Str}(hC:∀ C∈Cs,FldC K C f)(ha:D3 K W te fe la):D3 K W (tFld K te f) (e1 fe (DX Cs f)) la:=by
 intro μ H0 A0 ρ σ H Q s h
 refine ha _ _ _ _ _ _ _ s (h.seq fun a ea h1 v1 H1 s1 r1=>?_)
 clear ea
 obtain ⟨d,e,q⟩:=B6 h1
 cases a <;> try (cases e; done)
 rename_i C ns ds
 have e':(if C∈Cs then (ns.zip ds).lookup f else none)=some d:=e
 split at e'
 ·rename_i hm
  unfold Rep at r1
  obtain ⟨a,dx,fs,rfl,_,h2,h3,h4⟩:=r1
  subst h3
  obtain ⟨v,hv,rv⟩:=P9 h4 e'
  exact ⟨a,C,dx,fs,v,rfl,h2,(hC C hm).cls,(hC C hm).no,hv,q v H1 s1 rv⟩
 ·cases e'
structure ConC (K:PySem.W.Frag) (C:Addr) (f:Str) (d:Dt):Prop where
 cls:Cls K C
 con:∃ v u,Con K C f v u∧∀ κ H A,Rep κ H A d v
theorem Sw{f:Str}:∀ {fs:List (Str × V)},f∉fs.map (·.1)→fs.lookup f=none
 | [],_=>rfl
 | (g,v) :: fs,h=>by
  rw [List.map_cons,List.mem_cons,not_or] at h
  rw [List.lookup]
  have:(f == g)=false:=by simpa using h.1
  rw [this]
  exact Sw h.2
theorem lookup_mem{α:Type}{β:Type}[BEq α][LawfulBEq α]{a:α}{b:β}:∀ {l:List (α × β)},l.lookup a=some b→(a,b)∈l
 | [],h=>by cases h
 | (x,y) :: l,h=>by
  rw [List.lookup] at h
  cases e:a == x with
  | true=>
   rw [e] at h
   cases h
   rw [eq_of_beq e]
   exact List.mem_cons_self
  | false=>
   rw [e] at h
   exact List.mem_cons_of_mem _ (lookup_mem h)
def putN(f:Str):List Str→List Str
 | []=>[f]
 | g :: r=>if g=f then g :: r else g :: putN f r
def RU(f:Str)(d:Dt):List Str→List Dt→List Dt
 | [],_=>[d]
 | g :: r,x :: ds=>if g=f then d :: ds else x :: RU f d r ds
 | _ :: _,[]=>[]
theorem UE{κ:KM}{A:Ad}{f:Str}{d:Dt}{y:V}:∀ {fs:List (Str × V)} {ds:List Dt},Ah κ H A ds (fs.map (·.2))→Rep κ H A d y→(putF f y fs).map (·.1)=putN f (fs.map (·.1))∧Ah κ H A (RU f d (fs.map (·.1)) ds) ((putF f y fs).map (·.2))
 | [],ds,r,ry=>⟨rfl,Ah.cons ry Ah.nil⟩
 | (g,x) :: fs,ds,r,ry=>by
  cases ds with
  | nil=>unfold Ah at r; cases r
  | cons d0 ds=>
   unfold Ah at r
   obtain ⟨v,t,e1,r1,r2⟩:=r
   cases e1
   unfold putF
   simp only [List.map_cons,putN,RU]
   by_cases h:g=f
   ·rw [if_pos h,if_pos h,if_pos h]
    exact ⟨rfl,Ah.cons ry r2⟩
   ·rw [if_neg h,if_neg h,if_neg h]
    obtain ⟨q1,q2⟩:=UE (f:=f) r2 ry
    exact ⟨by rw [List.map_cons,q1],Ah.cons r1 q2⟩
def fm(n:Nat)(Cs:List Addr)(f:Str)(x d:Dt)(ρ:Env):Option Env:=match x with
 | .ad k=>(Ed n ρ).bind fun cs=>match cs[k]? with
  | some (.ins C ns ds)=>if C∈Cs∧ns.length < 1000 then some (ρ.set n (some (.mh (cs.set k (.ins C (putN f ns) (RU f d ns ds)))))) else none
  | _=>none
 | _=>none
def VI(n:Nat)(Cs:List Addr)(f:Str)(fx:Env→Out Dt)(fe:Env→XO Dt)(lk:List Nat):Env→SOut:=fun ρ=>xE (fe ρ) fun d ρ1=>IL (fx (AQ d lk ρ1)) (AQ d lk ρ1) fun x=>match fm n Cs f x d (AQ d lk ρ1) with
 | some ρ'=>.ok .nx ρ'
 | none=>.bad
theorem aP{te tx:TE}{fe:Env→XO Dt}{fx:Env→Out Dt}{Cs:List Addr}{f:Str}(hC:∀ C∈Cs,FldC K C f)(ha:Ml K W S te fe lk)(hx:D3 K W tx fx la):Jc K W (sFld K tx te f) (VI n Cs f fx fe lk):=by
 intro μ H0 A0 ρ σ H D s h
 unfold VI at h
 refine ha _ _ _ _ _ _ _ s (A9.xt h fun d ρ1 _ h1 μ1 v H1 c1 s1 r1=>?_)
 obtain ⟨s2,r2⟩:=s1.RH r1
 refine hx _ _ _ _ _ _ _ s2 (A9.st s2 (h1.ext c1.xt) fun x _ h2 w H2 g2 rx=>?_)
 have s3:=s2.grow g2
 split at h2
 ·rename_i ρ' ep
  unfold fm at ep
  split at ep
  ·rename_i k _
   obtain ⟨cs,ec,ep⟩:=Option.bind_eq_some_iff.mp ep
   split at ep
   ·rename_i C ns ds e1
    obtain ⟨⟨hm,hl⟩,rfl⟩:=Bq ep
    unfold Rep at rx
    obtain ⟨b,eb,rfl⟩:=rx
    obtain ⟨_,_,hc⟩:=s3.lo n _ (Dm ec)
    obtain ⟨h0,dx,fs,hb,hn,r⟩:=hc k _ b e1 eb
    refine ⟨b,C,dx,fs,rfl,hb,(hC C hm).cls,(hC C hm).no,by rw [← hn,List.length_map] at hl; exact hl,?_⟩
    refine h2 _ _ _ (Xt.refl _) (s3.dU (Dm ec) e1 rfl eb rfl fun A' hA=>?_)
    have ow:Bw ⟨K,μ1⟩ (AQ d lk ρ1) σ n b:=⟨_,Dm ec,k,_,e1,rfl,eb⟩
    obtain ⟨q1,q2⟩:=UE (f:=f) r (r2.same g2)
    rw [hn] at q1 q2
    exact ⟨h0,dx,_,upd_same,q1,q2.mono (Av.keep ow) hA⟩
   ·cases ep
  ·cases ep
 ·exact False.elim h2
end
section
variable {X:Cx} {W:WX} {S:List Nat} {e o:Expr} {fe fo:Env→Out Dt} {f:Env→XO Dt} {lk la lb:List Nat} {pos pos':Pos} {fd:Str} {Cs:List Addr}
theorem EH(hC:∀ C∈Cs,FldC X.K C fd)(ha:Bv X W e fe lk)(hb:attributeBase e fd X.env (eval e X.env)=eval e X.env:=by rfl):Bv X W (.Attribute e fd pos) (e1 fe (DX Cs fd)) lk:=by
 obtain ⟨te,pe,de⟩:=ha
 exact ⟨_,pe_fld pe hb,dO hC de⟩
theorem iz(n:Nat)(hC:∀ C∈Cs,FldC X.K C fd)(h:KP X W S e f lk)(ho:Bv X W o fo la)(hs:swapsWith e (some (.Attribute o fd pos')) pos.line X.env=pure false:=by rfl):Nq X W (.Assign [.Attribute o fd pos'] e pos) (VI n Cs fd fo f lk):=by
 obtain ⟨t,p,d⟩:=h
 obtain ⟨t',p',d'⟩:=ho
 exact ⟨_,ps_fld p' p hs,aP hC d d'⟩
end
end FD
namespace FD
open PySem L2 PyProof.Rows PySem.Spec
def newD(C:Addr)(φ:List Dt→List Cell→MO)(ds:List Dt):Out Dt:=if Dt.IA ds=true then (match φ (.ad 0 :: ds) [.ins C [] []] with
 | .ok .non cs'=>(match (cs'[0]?:Option Cell) with
  | some (Cell.ins C' ns es)=>if Dt.IA es=true∧C'=C then .ok (.obj C ns es) else .bad
  | _=>.bad)
 | .exc x _=>.exc x
 | _=>.bad) else .bad
section
variable {K:PySem.W.Frag} {S:List Nat} {σ:L2.St} {μ μ':Mu} {H H' H0:Hp} {ρ:Env} {A A0:Ad} {lk la lb:List Nat} {W:WX} {d:Dt} {v:V} {n:Nat}
theorem bR{C:Addr}{φ:List Dt→List Cell→MO}{ds:List Dt}{vs:List V}{Q:VK}{E:XK}(r:Ah ⟨K,μ⟩ H A ds vs)(ha:∀ a,A a→Mut (H a))(h:LB K μ A H Q E (newD C φ ds)){x dx:Addr}(hx:H x=none)(hdx:H dx=none)(hne:dx≠x):
  gP K φ (.ref x :: vs) (upd (upd H dx (.own x)) x (.ins C dx [])) (fun v H2=>v=.non∧Q (.ref x) H2) E:=by
 unfold newD at h
 by_cases hna:Dt.IA ds=true
 case neg=>rw [if_neg hna] at h; exact False.elim h
 rw [if_pos hna] at h
 have hs:Same H (upd (upd H dx (.own x)) x (.ins C dx [])):=fun b o e=>by
  rw [upd_ne (ne_of_none e hx),upd_ne (ne_of_none e hdx)]
  exact e
 have lv:∀ {m:Mu} a,m.l[0]? = some x→Lv ⟨K,⟨[x],false⟩⟩ [.ins C [] []] a→a=x:=fun a _ ⟨k,c,e1,e2,e3⟩=>by
  cases k with
  | zero=>exact (Option.some.inj e3).symm
  | succ k=>cases e1
 have nA:∀ a,A a→a≠x:=fun a z e=>by
  have q:=ha a z
  rw [e,hx] at q
  exact q
 have nAd:∀ a,A a→a≠dx:=fun a z e=>by
  have q:=ha a z
  rw [e,hdx] at q
  exact q
 have lv1:∀ a,Lv ⟨K,⟨[x],false⟩⟩ [.ins C [] []] a→a=x:=fun a z=>lv (m:=⟨[x],false⟩) a rfl z
 refine ⟨.ad 0 :: ds,A,⟨[x],false⟩,[.ins C [] []],Ah.cons ⟨x,rfl,rfl⟩ ?_,⟨fun j k a c c' e1 e2 _ _ f1 f2=>?_,rfl,fun k c a e1 e2=>?_⟩,fun a z=>?_,fun a z q=>nA a z (lv1 a q),rfl,?_⟩
 ·refine ((Ah.VO ds vs hna r).Ge.same hs).BZ fun a z=>z.imp id fun z=>?_
  rw [lv1 a z]
  exact hx
 ·cases j with
  | zero=>
   cases k with
   | zero=>rfl
   | succ k=>cases e2
  | succ j=>cases e1
 ·cases k with
  | zero=>
   cases e1
   cases e2
   exact ⟨rfl,dx,[],upd_same,rfl,Ah.nil⟩
  | succ k=>cases e1
 ·rw [upd_ne (nA a z),upd_ne (nAd a z)]
  exact ha a z
 ·unfold SJ
  cases eo:φ (.ad 0 :: ds) [.ins C [] []] with
  | bad=>rw [eo] at h; exact False.elim h
  | exc e cs'=>
   rw [eo] at h
   intro μ' c od H' m ex
   exact h c od H' (fun a o q=>m.keep a o (hs a o q) fun z=>by rw [lv1 a z,hx] at q; cases q) ex
  | ok d cs'=>
   rw [eo] at h
   cases d <;> try (exact False.elim h)
   intro μ' v H' m rv
   refine ⟨rv,?_⟩
   simp only at h
   cases e0:cs'[0]? with
   | none=>rw [e0] at h; exact False.elim h
   | some c=>
    rw [e0] at h
    cases c with
    | gone=>exact False.elim h
    | lst ds=>exact False.elim h
    | dic ks ds=>exact False.elim h
    | ins C' ns es=>
     simp only at h
     by_cases hc:Dt.IA es=true∧C'=C
     case neg=>rw [if_neg hc] at h; exact False.elim h
     rw [if_pos hc] at h
     obtain ⟨hes,rfl⟩:=hc
     have e1:=m.xt.get 0 x rfl
     obtain ⟨_,_,hcs⟩:=m.ok
     obtain ⟨_,dx',fs,h1,h2,h3⟩:=hcs 0 _ x e0 e1
     refine h (.ref x) H' (fun a o q=>m.keep a o (hs a o q) fun z=>by rw [lv1 a z,hx] at q; cases q) ?_
     unfold Rep
     exact ⟨x,dx',fs,rfl,fun z=>nA x z rfl,h1,h2,(Ah.VO es _ hes h3).BZ fun a z=>.inl z⟩
end
structure ClC (P:Program) (w:World) (K:PySem.W.Frag) (mg:Str→Option Value) (base:Heap) (x:Str) (k:Nat) (C:Addr) (φ:List Dt→List Cell→MO):Prop where
 mg_:mg x=some (.ref C)
 ex:∃ f,Mk K C f∧FnR P w K mg base (L2N.CX P w) k f (gP K φ)
section
variable {X:Cx} {W:WX} {S:List Nat} {e o:Expr} {es:List Expr} {fs:Env→Out (List Dt)} {gs:Env→XO (List Dt)} {fo:Env→Out Dt} {lk la:List Nat} {p pos apos:Pos} {C:Addr} {φ:List Dt→List Cell→MO} {ψ:List Dt→Out Dt}
def ia(C:Addr)(sp:Sp)(E:L2.St→XK)(t:TA):TE:=fun σ H Q=>t σ H fun vs H1=>∀ x dx,H1 x=Option.none→H1 dx=Option.none→dx≠x→sp (V.ref x :: vs) (upd (upd H1 dx (.own x)) x (.ins C dx [])) (fun v H2=>v=.non∧Q (.ref x) H2) (E σ)
theorem Y3{CX:CXT}{k:Nat}{f:Addr}{sp:Sp}{E:L2.St→XK}{pins:List (Addr × Obj)}{σ:L2.St}{H:Hp}{s:Shared}{Q:VK}{us:List Value}{vs:List V}(M:Mk X.K C f)(F:FnR X.prog X.w X.K X.mg X.base CX k f sp)(hr:Room (k + 1) X.A)(hx:PassesAt CX X σ (E σ))(I:Inv X pins σ H s)(r:Vals vs us)
  (h:∀ x dx,H x=Option.none→H dx=Option.none→dx≠x→sp (V.ref x :: vs) (upd (upd H dx (.own x)) x (.ins C dx [])) (fun v H2=>v=.non∧Q (.ref x) H2) (E σ)):
  wpAny (model X.prog X.w) X.A (call (.ref C) us) (EP X pins σ Q) X.xe s:=by
 have hq:=h (s.heap.objs.size + 1) s.heap.objs.size (I.hok.fresh (Nat.le_succ _)) (I.hok.fresh (Nat.le_refl _)) (Nat.ne_of_lt (Nat.lt_succ_self _))
 have I2:=Inv.made (C:=C) I
 have r2:Vals (V.ref (s.heap.objs.size + 1) :: vs) (Value.ref (s.heap.objs.size + 1) :: us):=.cons rfl r
 refine wpAny_call (make_map (f:=f) I.kIn M.makes M.init (beq_iff_eq.mp M.fn) (codeAny_mono (F _ X.stack _ _ (Value.ref (s.heap.objs.size + 1) :: us) _ _ (E σ) (hr.make C us []) (I2.env0.make C us []) r2 hq) fun r s' hq'=>?_))
 cases r with
 | error e=>exact hx pins _ _ e s' I2 hq'
 | ok fl=>
  cases fl with
  | ret u=>
   obtain ⟨v,H',I3,rv,ev,q3⟩:=I2.after hq'
   subst ev
   exact ⟨rv,⟨V.ref (s.heap.objs.size + 1),H',I3,rfl,q3⟩⟩
  | next=>exact False.elim hq'
  | brk=>exact False.elim hq'
  | cont=>exact False.elim hq'
theorem aK{x:Str}{k j:Nat}{t:TA}(c:ClC X.prog X.w X.K X.mg X.base x k C φ)(tk:L2N.Takes X W)(hr:Room j X.A)(hk:k + 1≤j)(hg:Gl X x)(ha:PA X (e :: es) t)(hdb:(x == ("__debug__" : Str))=false:=by decide)
  (he:starEach (e :: es) X.env=(false,eval e X.env) :: starEach es X.env:=by rfl) (hpl:(backTo pos (starEach es X.env)).any (·.1)=false:=by rfl):PE X (.Call (.Name x p) (e :: es) [] pos) (ia C (gP X.K φ) (WE W) t):=by
 obtain ⟨f,M,F⟩:=c.ex
 refine ⟨fun pins s σ H Q I h=>?_⟩
 refine wpAny_Call_Name_kw (ld_glob I hg c.mg_ ?_ hdb)
 refine PySem.W.callWith_K (h₀:=X.base) I.ok.mod.kin M.kp (thn (ha.run pos pins s σ H _ I h) fun us s1 ⟨vs,H1,I1,r,q⟩=>⟨I1.kIn,?_⟩) he hpl
 exact Y3 M F (hr.mono hk) (L2N.passAt tk σ) I1 r q
theorem Ts{x:Str}{k j:Nat}(c:ClC X.prog X.w X.K X.mg X.base x k C φ)(tk:L2N.Takes X W)(hr:Room j X.A)(hk:k + 1≤j)(hg:Gl X x)(ha:JN X W (e :: es) fs lk)(hdb:(x == ("__debug__" : Str))=false:=by decide)
  (he:starEach (e :: es) X.env=(false,eval e X.env) :: starEach es X.env:=by rfl) (hpl:(backTo pos (starEach es X.env)).any (·.1)=false:=by rfl):Bv X W (.Call (.Name x p) (e :: es) [] pos) (Aj (newD C φ) fs) lk:=by
 obtain ⟨ta,pa,da⟩:=ha
 refine ⟨_,aK c tk hr hk hg pa hdb he hpl,fun μ H0 A0 ρ σ H Q s h=>?_⟩
 refine da _ _ _ _ _ _ _ s (h.seq fun ds _ h1 vs H1 s1 r1=>fun x dx hx hdx hne=>?_)
 refine bR r1 (fun a z=>(s.grow s1).Ec z) ?_ hx hdx hne
 unfold LB
 cases eo:newD C φ ds with
 | ok d=>rw [eo] at h1; exact fun v H' s' r=>h1 v H' (s1.trans s') r
 | exc x=>rw [eo] at h1; exact fun c od H' s' r=>h1 c od H' (s1.trans s') r
 | bad=>rw [eo] at h1; exact h1
structure MeC (P:Program) (w:World) (K:PySem.W.Frag) (mg:Str→Option Value) (base:Heap) (k:Nat) (C:Addr) (m:Str) (ψ:List Dt→Out Dt):Prop where
 cls:Cls K C
 ex:∃ f,Meth K C m f∧FnR P w K mg base (L2N.CX P w) k f (OI K ψ)
def BM(L:List (Addr × (List Dt→Out Dt)))(m:Str)(fo:Env→Out Dt)(fs:Env→Out (List Dt)):Env→Out Dt:=fun ρ=>(fo ρ).bind fun o=>match o with
 | .obj C ns ds=>if m∈ns then .bad else (match L.lookup C with
  | some ψ=>(fs ρ).bind fun as=>ψ (.obj C ns ds :: as)
  | none=>.bad)
 | _=>.bad
def tMethS(L:List (Addr × (List Dt→Out Dt)))(K:PySem.W.Frag)(m:Str)(E:L2.St→XK)(ta:TE)(t:TA):TE:=fun σ H Q=>ta σ H fun x H1=>∃ C ψ a dx fs,(C,ψ)∈L∧x=.ref a∧H1 a=some (.ins C dx fs)∧fs.lookup m=none∧t σ H1 fun vs H2=>OI K ψ (x :: vs) H2 Q (E σ)
theorem pe_methS{m:Str}{k j:Nat}{L:List (Addr × (List Dt→Out Dt))}{ta:TE}{t:TA}{pl:Sem Bool}(hL:∀ q∈L,MeC X.prog X.w X.K X.mg X.base k q.1 m q.2)(tk:L2N.Takes X W)(hr:Room j X.A)(hk:k≤j)(he:PE X o ta)(ha:PA X (e :: es) t)
  (hst:starEach (e :: es) X.env=(false,eval e X.env) :: starEach es X.env:=by rfl) (hpl:(backTo pos (starEach es X.env)).any (·.1)=false:=by rfl)
  (ht:eval (.Call (.Attribute o m apos) (e :: es) [] pos) X.env=(do
   let ov ← eval o X.env
   standAt apos.atName
   let (f,first) ← holding [ov] (getMethod ov m pl)
   callWith pos f first (backTo pos (starEach (e :: es) X.env)) (backToKw pos (keywordEach [] X.env))):=by rfl):
  PE X (.Call (.Attribute o m apos) (e :: es) [] pos) (tMethS L X.K m (WE W) ta t):=by
 refine ⟨fun pins s σ H Q I h=>?_⟩
 refine PySem.W.methodCall_KW (pl:=pl) (thn (he.run pins s σ H _ I h) fun u s1 ⟨x,H1,I1,rx,C,ψ,a,dx,fs,hm,ex,ea,l,q⟩=>?_) ht
 subst ex
 obtain rfl:u=Value.ref a:=rx
 have mc:=hL _ hm
 obtain ⟨f,hme,F⟩:=mc.ex
 refine getmeth_ok I1 ea mc.cls hme l ?_
 refine PySem.W.callWith_K (first:=[.ref a]) (h₀:=X.base) I.ok.mod.kin hme.kp (thn (ha.run pos pins s1 σ H1 _ I1 q) fun us s2 ⟨vs,H2,I2,r,q2⟩=>⟨I2.kIn,?_⟩) hst hpl
 exact IQ (us:=.ref a :: us) (vs:=.ref a :: vs) F (hr.mono hk) (L2N.passAt tk σ) I2 (.cons rfl r) q2
theorem Zi{m:Str}{k j:Nat}{L:List (Addr × (List Dt→Out Dt))}{ta:TE}{pl:Sem Bool}(hL:∀ q∈L,MeC X.prog X.w X.K X.mg X.base k q.1 m q.2)(tk:L2N.Takes X W)(hr:Room j X.A)(hk:k≤j)(he:PE X o ta)
  (ht:eval (.Call (.Attribute o m apos) [] [] pos) X.env=(do
   let ov ← eval o X.env
   standAt apos.atName
   let (f,first) ← holding [ov] (getMethod ov m pl)
   callWith pos f first (backTo pos (starEach [] X.env)) (backToKw pos (keywordEach [] X.env))):=by rfl):
  PE X (.Call (.Attribute o m apos) [] [] pos) (tMethS L X.K m (WE W) ta tNil):=by
 refine ⟨fun pins s σ H Q I h=>?_⟩
 refine PySem.W.methodCall_KW (pl:=pl) (thn (he.run pins s σ H _ I h) fun u s1 ⟨x,H1,I1,rx,C,ψ,a,dx,fs,hm,ex,ea,l,q⟩=>?_) ht
 subst ex
 obtain rfl:u=Value.ref a:=rx
 have mc:=hL _ hm
 obtain ⟨f,hme,F⟩:=mc.ex
 refine getmeth_ok I1 ea mc.cls hme l ?_
 exact PySem.W.callWith_K0 (first:=[.ref a]) I1.kIn hme.kp (IQ (us:=[.ref a]) (vs:=[.ref a]) F (hr.mono hk) (L2N.passAt tk σ) I1 (.cons rfl .nil) q)
theorem RW{K:PySem.W.Frag}{m:Str}{L:List (Addr × (List Dt→Out Dt))}{ta:TE}{t:TA}(ho:D3 K W ta fo la)(ha:Ub K W t fs lk):D3 K W (tMethS L K m (WE W) ta t) (BM L m fo fs) (la ++ lk):=by
 intro μ H0 A0 ρ σ H Q s h
 refine ho _ _ _ _ _ _ _ s (h.seq fun o eo h1 v1 H1 s1 r1=>?_)
 clear eo
 cases o <;> try (exact False.elim h1)
 rename_i C ns ds
 simp only at h1
 by_cases hm:m∈ns
 case pos=>rw [if_pos hm] at h1; exact False.elim h1
 rw [if_neg hm] at h1
 cases el:L.lookup C with
 | none=>rw [el] at h1; exact False.elim h1
 | some ψ=>
  rw [el] at h1
  simp only at h1
  have r1':=r1
  unfold Rep at r1
  obtain ⟨a,dx,fl,rfl,_,h2,h3,_⟩:=r1
  refine ⟨C,ψ,a,dx,fl,lookup_mem el,rfl,h2,Sw (by rw [h3]; exact hm),?_⟩
  refine ha _ _ _ _ _ _ _ (s.grow s1) ((h1.grow s1).seq fun as _ h4 vs H2 s2 r2=>?_)
  refine ⟨.obj C ns ds :: as,Av ⟨K,μ⟩ A0 ρ σ (la ++ lk),μ,Ah.cons ((r1'.same s2).BZ fun _=>bf) (r2.BZ fun _=>bZ),fun a z=>(s.grow (s1.trans s2)).Ec z,?_⟩
  unfold LB
  cases eo:ψ (.obj C ns ds :: as) with
  | ok d=>rw [eo] at h4; exact fun v H' s' r=>h4 v H' ((s1.trans s2).trans s') r
  | exc x=>rw [eo] at h4; exact fun c od H' s' r=>h4 c od H' (s2.trans s') r
  | bad=>rw [eo] at h4; exact h4
theorem OV{m:Str}{k j:Nat}{L:List (Addr × (List Dt→Out Dt))}{pl:Sem Bool}(hL:∀ q∈L,MeC X.prog X.w X.K X.mg X.base k q.1 m q.2)(tk:L2N.Takes X W)(hr:Room j X.A)(hk:k≤j)(ho:Bv X W o fo la)(ha:JN X W (e :: es) fs lk)
  (hst:starEach (e :: es) X.env=(false,eval e X.env) :: starEach es X.env:=by rfl) (hpl:(backTo pos (starEach es X.env)).any (·.1)=false:=by rfl)
  (ht:eval (.Call (.Attribute o m apos) (e :: es) [] pos) X.env=(do
   let ov ← eval o X.env
   standAt apos.atName
   let (f,first) ← holding [ov] (getMethod ov m pl)
   callWith pos f first (backTo pos (starEach (e :: es) X.env)) (backToKw pos (keywordEach [] X.env))):=by rfl):
  Bv X W (.Call (.Attribute o m apos) (e :: es) [] pos) (BM L m fo fs) (la ++ lk):=by
 obtain ⟨te,pe,de⟩:=ho
 obtain ⟨ta,pa,da⟩:=ha
 exact ⟨_,pe_methS hL tk hr hk pe pa hst hpl ht,RW de da⟩
theorem G3{m:Str}{k j:Nat}{L:List (Addr × (List Dt→Out Dt))}{pl:Sem Bool}(hL:∀ q∈L,MeC X.prog X.w X.K X.mg X.base k q.1 m q.2)(tk:L2N.Takes X W)(hr:Room j X.A)(hk:k≤j)(ho:Bv X W o fo la)
  (ht:eval (.Call (.Attribute o m apos) [] [] pos) X.env=(do
   let ov ← eval o X.env
   standAt apos.atName
   let (f,first) ← holding [ov] (getMethod ov m pl)
   callWith pos f first (backTo pos (starEach [] X.env)) (backToKw pos (keywordEach [] X.env))):=by rfl):
  Bv X W (.Call (.Attribute o m apos) [] [] pos) (BM L m fo Ag) la:=by
 obtain ⟨te,pe,de⟩:=ho
 refine ⟨_,Zi hL tk hr hk pe ht,?_⟩
 have q:=RW (K:=X.K) (m:=m) (L:=L) (W:=W) de (XZ (W:=W))
 rw [List.append_nil] at q
 exact q
end
end FD
namespace FD
open PySem L2 PyProof.Rows PySem.Spec
def Dt.flat:Dt→Bool
 | .non=>true | .bl _=>true | .int _=>true | .str _=>true
 | _=>false
def eqF:Dt→Dt→Bool
 | .non,.non=>true
 | .bl a,.bl b=>a == b
 | .bl a,.int b=>(if a then 1 else 0) == b
 | .int a,.bl b=>a == (if b then 1 else 0)
 | .int a,.int b=>a == b
 | .str a,.str b=>a == b
 | _,_=>false
def bY(x:Dt)(ds:List Dt):Bool:=ds.any fun y=>eqF y x
def LL(x b:Dt):Option Bool:=b.Z5.bind fun ds=>if x.flat=true∧ds.all Dt.flat=true then some (bY x ds) else none
section
variable {κ:KM} {K:PySem.W.Frag} {H:Hp} {A:Ad}
theorem V5{d:Dt}{v:V}(h:d.flat=true)(r:Rep κ H A d v):flatV v=true:=by
 cases d <;> first | (cases h; done) | (obtain rfl:v=_:=r; rfl)
theorem kG{a b:Dt}{x y:V}(ha:a.flat=true)(hb:b.flat=true)(ra:Rep κ H A a x)(rb:Rep κ H A b y):eqV x y=eqF a b:=by
 cases a <;> first | (cases ha; done) | skip
 all_goals obtain rfl:x=_:=ra
 all_goals (cases b <;> first | (cases hb; done) | skip)
 all_goals (obtain rfl:y=_:=rb; rfl)
theorem TR:∀ {ds:List Dt} {vs:List V},ds.all Dt.flat=true→Ah κ H A ds vs→vs.all flatV=true
 | [],vs,_,r=>by unfold Ah at r; rw [r]; rfl
 | d :: ds,vs,h,r=>by
  unfold Ah at r
  obtain ⟨v,q,rfl,r1,r2⟩:=r
  rw [List.all_cons,Bool.and_eq_true] at h
  rw [List.all_cons,Bool.and_eq_true]
  exact ⟨V5 h.1 r1,TR h.2 r2⟩
theorem ZE{x:Dt}{u:V}(hx:x.flat=true)(rx:Rep κ H A x u):∀ {ds:List Dt} {vs:List V},ds.all Dt.flat=true→Ah κ H A ds vs→inV u vs=bY x ds
 | [],vs,_,r=>by unfold Ah at r; rw [r]; rfl
 | d :: ds,vs,h,r=>by
  unfold Ah at r
  obtain ⟨v,q,rfl,r1,r2⟩:=r
  rw [List.all_cons,Bool.and_eq_true] at h
  have ih:=ZE hx rx h.2 r2
  unfold inV bY at ih ⊢
  rw [List.any_cons,List.any_cons,ih,kG h.1 hx r1 rx]
theorem aN{d:Dt}{v:V}{ds:List Dt}(e:d.Z5=some ds)(r:Rep κ H A d v):∃ a vs,v=.ref a∧(SqL κ.K H a vs∨SqT κ.K H a vs)∧Ah κ H A ds vs:=by
 cases d <;> first | (cases e; done) | skip
 ·cases e
  unfold Rep at r
  obtain ⟨a,vs,rfl,h1,r2⟩:=r
  exact ⟨a,vs,rfl,.inr (SqT.Zy h1),r2⟩
 ·cases e
  unfold Rep at r
  obtain ⟨a,vs,rfl,_,h1,r2⟩:=r
  exact ⟨a,vs,rfl,.inl (SqL.of h1),r2⟩
 ·cases e
  unfold Rep at r
  obtain ⟨a,vs,rfl,h1,r2⟩:=r
  exact ⟨a,vs,rfl,.inl (SqL.ez h1),r2⟩
theorem fN:OQ K (rIn K false) LL:=by
 intro μ H A a b d x y Q ra rb e q
 unfold LL at e
 obtain ⟨ds,e1,e⟩:=Option.bind_eq_some_iff.mp e
 obtain ⟨⟨h1,h2⟩,rfl⟩:=Bq e
 obtain ⟨p,vs,rfl,hs,r⟩:=aN e1 rb
 refine ⟨p,vs,rfl,hs,V5 h1 ra,TR h2 r,?_⟩
 show Q (.bl (inV x vs)) H
 rw [ZE h1 ra h2 r]
 exact q
theorem VU:OQ K (rIn K true) (Dq LL):=by
 intro μ H A a b d x y Q ra rb e q
 obtain ⟨d',e',rfl⟩:=Option.map_eq_some_iff.mp e
 clear e
 unfold LL at e'
 obtain ⟨ds,e1,e'⟩:=Option.bind_eq_some_iff.mp e'
 obtain ⟨⟨h1,h2⟩,rfl⟩:=Bq e'
 obtain ⟨p,vs,rfl,hs,r⟩:=aN e1 rb
 refine ⟨p,vs,rfl,hs,V5 h1 ra,TR h2 r,?_⟩
 show Q (.bl (!inV x vs)) H
 rw [ZE h1 ra h2 r]
 exact q
def Kh:List Dt→Option Dt
 | [d]=>d.Z5.map .tup
 | _=>none
theorem dA{K:PySem.W.Frag}:Uc K (fun xs H Q=>∃ p ys,xs=[.ref p]∧((SqL K H p ys∧∀ l,H l=none→Q (.ref l) (upd H l (.tup ys)))∨(SqT K H p ys∧Q (.ref p) H))) Kh:=by
 intro μ H A ds d vs Q ha r e q
 unfold Kh at e
 split at e
 ·obtain ⟨v,rfl,rr⟩:=Dg r
  obtain ⟨es,e1,rfl⟩:=Option.map_eq_some_iff.mp e
  rename_i d
  have fin:∀ {ys:List V},Ah ⟨K,μ⟩ H A es ys→∀ l,H l=none→Q (.ref l) (upd H l (.tup ys)):=fun {ys} r2 l hl=>q (.ref l) _ (Same.new hl) (by
   unfold Rep
   exact ⟨l,ys,rfl,.inl ⟨fun z=>by have:=ha l z; rw [hl] at this; exact this,upd_same⟩,r2.same (Same.new hl)⟩)
  cases d <;> first | (cases e1; done) | skip
  ·cases e1
   have rr':=rr
   unfold Rep at rr
   obtain ⟨a,vs,rfl,h1,r2⟩:=rr
   exact ⟨a,vs,rfl,.inr ⟨SqT.Zy h1,RE.now q rr'⟩⟩
  ·cases e1
   unfold Rep at rr
   obtain ⟨a,vs,rfl,_,h1,r2⟩:=rr
   exact ⟨a,vs,rfl,.inl ⟨SqL.of h1,fin r2⟩⟩
  ·cases e1
   unfold Rep at rr
   obtain ⟨a,vs,rfl,h1,r2⟩:=rr
   exact ⟨a,vs,rfl,.inl ⟨SqL.ez h1,fin r2⟩⟩
 ·cases e
def MV:List Dt→Option Dt
 | [.int i,.int j]=>some (.int (if j > i then j else i))
 | _=>none
def Mh:List Dt→Option Dt
 | [.int i,.int j]=>some (.int (if j < i then j else i))
 | _=>none
theorem a6{K:PySem.W.Frag}:Uc K (fun xs H Q=>∃ i j,xs=[.int i,.int j]∧Q (.int (if j > i then j else i)) H) MV:=by
 intro μ H A ds d vs Q ha r e q
 unfold MV at e
 split at e
 ·obtain ⟨v,u,rfl,r1,r2⟩:=P4 r
  cases e
  obtain rfl:v=.int _:=r1
  obtain rfl:u=.int _:=r2
  exact ⟨_,_,rfl,RE.now q rfl⟩
 ·cases e
theorem ZT{K:PySem.W.Frag}:Uc K (fun xs H Q=>∃ i j,xs=[.int i,.int j]∧Q (.int (if j < i then j else i)) H) Mh:=by
 intro μ H A ds d vs Q ha r e q
 unfold Mh at e
 split at e
 ·obtain ⟨v,u,rfl,r1,r2⟩:=P4 r
  cases e
  obtain rfl:v=.int _:=r1
  obtain rfl:u=.int _:=r2
  exact ⟨_,_,rfl,RE.now q rfl⟩
 ·cases e
theorem VW:∀ ds d,MV ds=some d→d.scal=true:=fun ds d e=>by
 unfold MV at e
 split at e <;> first | (cases e; rfl) | cases e
theorem WR:∀ ds d,Mh ds=some d→d.scal=true:=fun ds d e=>by
 unfold Mh at e
 split at e <;> first | (cases e; rfl) | cases e
end
section
variable {X:Cx} {W:WX} {S:List Nat} {e o a b:Expr} {es:List Expr} {fs:Env→Out (List Dt)} {gs:Env→XO (List Dt)} {f fa fb:Env→Out Dt} {lk la lb:List Nat} {p pos apos:Pos}
theorem O3(hg:Gl X "tuple")(hm:X.mg "tuple" = none)(ha:JN X W [e] fs lk)(he:starEach [e] X.env=(false,eval e X.env) :: starEach [] X.env:=by rfl):Bv X W (.Call (.Name "tuple" p) [e] [] pos) (eB Kh fs) lk:=by
 obtain ⟨ta,pa,da⟩:=ha
 exact ⟨_,pe_callTy call_tuple_of hg hm boot_tuple pa (by decide) (by decide) he rfl,XF dA da⟩
theorem cP(hc:X.calm=true)(hg:Gl X "max")(hm:X.mg "max" = none)(ha:JN X W [a,b] fs lk)(he:starEach [a,b] X.env=(false,eval a X.env) :: starEach [b] X.env:=by rfl)(hpl:(backTo pos (starEach [b] X.env)).any (·.1)=false:=by rfl):Bv X W (.Call (.Name "max" p) [a,b] [] pos) (eB MV fs) []:=by
 obtain ⟨ta,pa,da⟩:=ha
 exact ⟨_,pe_callB (call_max2 hc) hg hm boot_max pa (by decide) (by decide) he hpl,F4 a6 VW da⟩
theorem c5(hc:X.calm=true)(hg:Gl X "min")(hm:X.mg "min" = none)(ha:JN X W [a,b] fs lk)(he:starEach [a,b] X.env=(false,eval a X.env) :: starEach [b] X.env:=by rfl)(hpl:(backTo pos (starEach [b] X.env)).any (·.1)=false:=by rfl):Bv X W (.Call (.Name "min" p) [a,b] [] pos) (eB Mh fs) []:=by
 obtain ⟨ta,pa,da⟩:=ha
 exact ⟨_,pe_callB (call_min2 hc) hg hm boot_min pa (by decide) (by decide) he hpl,F4 ZT WR da⟩
end
end FD
namespace FD
open PySem L2 PyProof.Rows PySem.Spec
def Tz:List Dt→Option (List Bool)
 | []=>some []
 | .bl z :: ds=>(Tz ds).map (z :: ·)
 | _=>none
@[simp] theorem QN:∀ zs:List Bool,Tz (zs.map .bl)=some zs
 | []=>rfl
 | z :: zs=>by
  show (Tz (zs.map .bl)).map (z :: ·)=_
  rw [QN zs]
  rfl
def U7:List Dt→Option Dt
 | [.lst ds]=>(Tz ds).map fun bs=>.bl (bs.all id)
 | [.fls ds]=>(Tz ds).map fun bs=>.bl (bs.all id)
 | _=>none
def JV:List Dt→Option Dt
 | [.lst ds]=>(Tz ds).map fun bs=>.bl (bs.any id)
 | [.fls ds]=>(Tz ds).map fun bs=>.bl (bs.any id)
 | _=>none
section
variable {κ:KM} {K:PySem.W.Frag} {H H0 H1:Hp} {A A0:Ad} {ρ:Env} {σ:L2.St} {W:WX} {la lb lk:List Nat}
theorem Qt:∀ {ds:List Dt} {bs:List Bool} {vs:List V},Tz ds=some bs→Ah κ H A ds vs→vs=bs.map V.bl
 | [],bs,vs,e,r=>by cases e; unfold Ah at r; rw [r]; rfl
 | d :: ds,bs,vs,e,r=>by
  unfold Ah at r
  obtain ⟨v,q,rfl,r1,r2⟩:=r
  cases d <;> first | (cases e; done) | skip
  rename_i z
  obtain ⟨bs',e',rfl⟩:=Option.map_eq_some_iff.mp (show (Tz ds).map (z :: ·)=some bs from e)
  obtain rfl:v=.bl z:=r1
  rw [Qt e' r2]
  rfl
theorem eh{K:PySem.W.Frag}:Uc K (rAll K) U7:=by
 intro μ H A ds d vs Q ha r e q
 unfold U7 at e
 split at e
 ·obtain ⟨v,rfl,rr⟩:=Dg r
  obtain ⟨bs,e',rfl⟩:=Option.map_eq_some_iff.mp e
  unfold Rep at rr
  obtain ⟨a,us,rfl,_,h1,r2⟩:=rr
  have h2:=Qt e' r2
  subst h2
  exact ⟨a,bs,rfl,SqL.of h1,RE.now q rfl⟩
 ·obtain ⟨v,rfl,rr⟩:=Dg r
  obtain ⟨bs,e',rfl⟩:=Option.map_eq_some_iff.mp e
  unfold Rep at rr
  obtain ⟨a,us,rfl,h1,r2⟩:=rr
  have h2:=Qt e' r2
  subst h2
  exact ⟨a,bs,rfl,SqL.ez h1,RE.now q rfl⟩
 ·cases e
theorem dz{K:PySem.W.Frag}:Uc K (rAny K) JV:=by
 intro μ H A ds d vs Q ha r e q
 unfold JV at e
 split at e
 ·obtain ⟨v,rfl,rr⟩:=Dg r
  obtain ⟨bs,e',rfl⟩:=Option.map_eq_some_iff.mp e
  unfold Rep at rr
  obtain ⟨a,us,rfl,_,h1,r2⟩:=rr
  have h2:=Qt e' r2
  subst h2
  exact ⟨a,bs,rfl,SqL.of h1,RE.now q rfl⟩
 ·obtain ⟨v,rfl,rr⟩:=Dg r
  obtain ⟨bs,e',rfl⟩:=Option.map_eq_some_iff.mp e
  unfold Rep at rr
  obtain ⟨a,us,rfl,h1,r2⟩:=rr
  have h2:=Qt e' r2
  subst h2
  exact ⟨a,bs,rfl,SqL.ez h1,RE.now q rfl⟩
 ·cases e
theorem Ys:∀ ds d,U7 ds=some d→d.scal=true:=fun ds d e=>by
 unfold U7 at e
 split at e
 ·obtain ⟨bs,e',rfl⟩:=Option.map_eq_some_iff.mp e; rfl
 ·obtain ⟨bs,e',rfl⟩:=Option.map_eq_some_iff.mp e; rfl
 ·cases e
theorem Yj:∀ ds d,JV ds=some d→d.scal=true:=fun ds d e=>by
 unfold JV at e
 split at e
 ·obtain ⟨bs,e',rfl⟩:=Option.map_eq_some_iff.mp e; rfl
 ·obtain ⟨bs,e',rfl⟩:=Option.map_eq_some_iff.mp e; rfl
 ·cases e
end
section
variable {K:PySem.W.Frag} {W:WX} {la lb lk:List Nat}
end
section
variable {X:Cx} {W:WX} {o e a b c d:Expr} {es:List Expr} {fs gs:Env→Out (List Dt)} {f fa fb fc fd:Env→Out Dt} {lk la lb lc ld:List Nat} {p pos apos:Pos}
theorem jz(hc:X.calm=true)(hg:Gl X "all")(hm:X.mg "all" = none)(ha:JN X W [e] fs lk)(he:starEach [e] X.env=(false,eval e X.env) :: starEach [] X.env:=by rfl):Bv X W (.Call (.Name "all" p) [e] [] pos) (eB U7 fs) []:=by
 obtain ⟨ta,pa,da⟩:=ha
 exact ⟨_,pe_callB (cr_all hc) hg hm boot_all pa (by decide) (by decide) he rfl,F4 eh Ys da⟩
theorem aJ(hc:X.calm=true)(hg:Gl X "any")(hm:X.mg "any" = none)(ha:JN X W [e] fs lk)(he:starEach [e] X.env=(false,eval e X.env) :: starEach [] X.env:=by rfl):Bv X W (.Call (.Name "any" p) [e] [] pos) (eB JV fs) []:=by
 obtain ⟨ta,pa,da⟩:=ha
 exact ⟨_,pe_callB (cr_any hc) hg hm boot_any pa (by decide) (by decide) he rfl,F4 dz Yj da⟩
theorem jn:Cmp X .In LL:=⟨_,op_in_seq,fN⟩
theorem Yl:Cmp X .NotIn (Dq LL):=⟨_,op_notIn_seq,VU⟩
def Qa(f:Env→Out Dt)(g:Env→Out (List Dt)):Env→Out (List Dt):=fun ρ=>(f ρ).bind fun d=>match d.Z5 with
 | some es=>(g ρ).bind fun ds=>.ok (es ++ ds)
 | none=>.bad
theorem Ui(he:Bv X W e f la)(hr:JN X W es fs lb)(hs:starEach (.Starred e p :: es) X.env=(true,eval e X.env) :: starEach es X.env:=by rfl):JN X W (.Starred e p :: es) (Qa f fs) (la ++ lb):=by
 obtain ⟨t,p1,d1⟩:=he
 obtain ⟨t',p2,d2⟩:=hr
 refine ⟨_,StX.pa_star p1 p2 hs,fun μ H0 A0 ρ σ H Q s h=>?_⟩
 refine d1 _ _ _ _ _ _ _ s (h.seq fun d _ h1 v1 H1 s1 r1=>?_)
 cases ed:d.Z5 with
 | none=>rw [ed] at h1; exact False.elim h1
 | some es=>
  rw [ed] at h1
  obtain ⟨a,vs,rfl,hq,r2⟩:=aN ed r1
  refine ⟨a,vs,rfl,hq.symm,d2 _ _ _ _ _ _ _ (s.grow s1) ((h1.grow s1).seq fun ds _ h2 ws H2 s2 r3=>?_)⟩
  exact h2 _ H2 (s1.trans s2) (Ah.append ((r2.same s2).BZ fun _=>bf) (r3.BZ fun _=>bZ))
end
end FD
namespace FD
open PySem L2 PyProof.Rows PySem.Spec
abbrev tys:List String:=["NoneType","bool","int","str","tuple","list","dict"]
theorem Xc{d:Dt}{t:String}(e:d.gT=some t):t∈tys:=by
 cases d <;> first | (cases e; done) | (cases e; decide)
theorem Gp{α:Type}{c:Prop}[Decidable c]{a:Option α}{b:α}(h:(if c then a else none)=some b):c∧a=some b:=by
 by_cases hc:c
 ·rw [if_pos hc] at h; exact ⟨hc,h⟩
 ·rw [if_neg hc] at h; cases h
structure IsoC (K:PySem.W.Frag) (C:Addr) (L:List (Addr × Bool)):Prop where
 own:∀ q∈L,C8.InsC K q.1∧PySem.W.kitOne K (.ref q.1) (.ref C)=some q.2
 oth:∀ t∈tys,PySem.W.kitOne K (.type t) (.ref C)=some false
def Ux(C:Addr)(L:List (Addr × Bool)):List Dt→Option Dt
 | [.obj D _ _,.cls c]=>if c=C then (L.lookup D).map .bl else none
 | [d,.cls c]=>if c=C then d.gT.map fun _=>.bl false else none
 | _=>none
theorem ij{K:PySem.W.Frag}{H:Hp}{a C dx:Addr}{fs:List (Str × V)}(c:C8.InsC K C)(e:H a=some (.ins C dx fs)):TyX K H (.ref a) (.ref C):=.base (.ins e c.cl c.ha c.hn c.htk c.hm)
theorem dw{K:PySem.W.Frag}{C:Addr}{L:List (Addr × Bool)}(h:IsoC K C L):Uc K (rIsi K) (Ux C L):=by
 intro μ H A ds d vs Q ha r e q
 unfold Ux at e
 split at e
 ·rename_i D ns es c
  obtain ⟨v,u,rfl,r1,r2⟩:=P4 r
  obtain ⟨hc,e'⟩:=Gp e
  clear e
  subst hc
  obtain rfl:u=.ref c:=r2
  obtain ⟨b,eb,rfl⟩:=Option.map_eq_some_iff.mp e'
  obtain ⟨h1,h2⟩:=h.own _ (lookup_mem eb)
  unfold Rep at r1
  obtain ⟨a,dx,fs,rfl,_,h3,_,_⟩:=r1
  exact ⟨_,_,.ref D,.ref c,b,rfl,.own c,ij h1 h3,h2,RE.now q rfl⟩
 ·rename_i x c _
  obtain ⟨v,u,rfl,r1,r2⟩:=P4 r
  obtain ⟨hc,e'⟩:=Gp e
  clear e
  subst hc
  obtain rfl:u=.ref c:=r2
  obtain ⟨t,et,rfl⟩:=Option.map_eq_some_iff.mp e'
  exact ⟨_,_,.type t,.ref c,false,rfl,.own c,V4 r1 et,h.oth _ (Xc et),RE.now q rfl⟩
 ·cases e
theorem Y7{C:Addr}{L:List (Addr × Bool)}:∀ ds d,Ux C L ds=some d→d.scal=true:=fun ds d e=>by
 unfold Ux at e
 split at e
 ·obtain ⟨hc,e'⟩:=Gp e
  obtain ⟨b,eb,rfl⟩:=Option.map_eq_some_iff.mp e'
  rfl
 ·obtain ⟨hc,e'⟩:=Gp e
  obtain ⟨b,eb,rfl⟩:=Option.map_eq_some_iff.mp e'
  rfl
 ·cases e
abbrev Ly:=List (Addr × (List Dt→Out Dt))
def bj(L:Ly):Dt→Bool
 | .obj D _ _=>(L.lookup D).isSome
 | d=>d.gT.isSome
def kT:Out Dt→Out Dt
 | .ok (.bl b)=>.ok (.bl b)
 | .exc x=>.exc x
 | _=>.bad
def El(L:Ly)(fa fb:Env→Out Dt):Env→Out Dt:=fun ρ=>(fa ρ).bind fun a=>(fb ρ).bind fun b=>match a with
 | .obj C ns ds=>(match L.lookup C with
  | some ψ=>if bj L b=true then kT (ψ [.obj C ns ds,b]) else .bad
  | none=>.bad)
 | _=>.bad
structure EqC (K:PySem.W.Frag) (L:Ly) (C:Addr):Prop where
 oth:∀ t∈tys,PySem.W.notFirst K C (.type t)=true
 own:∀ q∈L,PySem.W.notFirst K C (.ref q.1)=true
def TyQ(K:PySem.W.Frag)(L:Ly)(y:V)(H:Hp):Prop:=(∃ t∈tys,TyX K H y (.type t))∨∃ a D ψ dx fs,(D,ψ)∈L∧y=.ref a∧H a=some (.ins D dx fs)
def kZ(K:PySem.W.Frag)(L:Ly)(E:L2.St→XK)(ta tb:TE):TE:=fun σ H Q=>ta σ H fun x H1=>tb σ H1 fun y H2=>∃ C ψ a dx fs,(C,ψ)∈L∧x=.ref a∧H2 a=some (.ins C dx fs)∧TyQ K L y H2∧OI K ψ [x,y] H2 (fun v H'=>(∃ b,v=.bl b)∧Q v H') (E σ)
theorem eJ{κ:KM}{H:Hp}{A:Ad}{L:Ly}{d:Dt}{v:V}(h:bj L d=true)(r:Rep κ H A d v)(hn:∀ C ns ds,d≠.obj C ns ds):TyQ κ.K L v H:=by
 have h':d.gT.isSome=true:=by
  cases d with
  | obj C ns ds=>exact absurd rfl (hn C ns ds)
  | _=>exact h
 obtain ⟨t,e⟩:=Option.isSome_iff_exists.mp h'
 exact .inl ⟨t,Xc e,V4 r e⟩
section
variable {X:Cx} {W:WX} {e o a b:Expr} {fs:Env→Out (List Dt)} {f fa fb:Env→Out Dt} {lk la lb:List Nat} {p pos apos:Pos} {L:Ly} {k j:Nat} {ta tb:TE}
theorem hI{C:Addr}{T:List (Addr × Bool)}(h:IsoC X.K C T)(hg:Gl X "isinstance")(hm:X.mg "isinstance" = none)(ha:JN X W [a,b] fs lk)(he:starEach [a,b] X.env=(false,eval a X.env) :: starEach [b] X.env:=by rfl)(hpl:(backTo pos (starEach [b] X.env)).any (·.1)=false:=by rfl):
  Bv X W (.Call (.Name "isinstance" p) [a,b] [] pos) (eB (Ux C T) fs) []:=by
 obtain ⟨ta,pa,da⟩:=ha
 exact ⟨_,pe_callB call_isi hg hm boot_isinstance pa (by decide) (by decide) he hpl,F4 (dw h) Y7 da⟩
theorem bO(hL:∀ q∈L,MeC X.prog X.w X.K X.mg X.base k q.1 "__eq__" q.2)(hE:∀ q∈L,EqC X.K L q.1)(tk:L2N.Takes X W)(hr:Room j X.A)(hk:k≤j)(ha:PE X a ta)(hb:PE X b tb):PC X .Eq a b (kZ X.K L (WE W) ta tb):=by
 refine ⟨fun pins s σ H Q I h=>?_⟩
 refine thn (ha.run pins s σ H _ I h) fun v s1 ⟨x,H1,I1,rx,q1⟩=>thn (hb.run pins s1 σ H1 _ I1 q1) fun u s2 ⟨y,H2,I2,ry,C,ψ,p,dx,fs,hm,ex,ep,ty,q2⟩=>?_
 subst ex
 obtain rfl:v=Value.ref p:=rx
 have mc:=hL _ hm
 have ec:=hE _ hm
 obtain ⟨f,hme,F⟩:=mc.ex
 obtain ⟨mA,J,_⟩:=ins_get I2.hok ep
 obtain ⟨od,J,_⟩:=J.look
 obtain ⟨m,hF⟩:=I2.fr
 obtain ⟨tb,hlb,hnf⟩:∃ tb,PySem.W.Looks (model X.prog X.w) s2.heap (typeOf u) tb∧PySem.W.notFirst X.K C tb=true:=by
  rcases ty with ⟨t,ht,ty⟩ | ⟨p',D,ψ',dx',fs',hm',rfl,ep'⟩
  ·obtain ⟨P,Z,z,_⟩:=kit_of I2 ry ty
   exact ⟨_,Z.ty _ _ I2.kIn z,ec.oth t ht⟩
  ·obtain rfl:u=Value.ref p':=ry
   obtain ⟨mB,J',_⟩:=ins_get I2.hok ep'
   obtain ⟨od',J',_⟩:=J'.look
   exact ⟨_,J'.type,ec.own _ hm'⟩
 show wpAny (model X.prog X.w) X.A (richCompare .Eq (.ref p) u) (EP X pins σ Q) X.xe s2
 refine PySem.W.cmp_K (op:=.Eq) (tb:=tb) (hr.mono hk).units0 hF I2.ok.mod.kin J hlb hnf hme.at_ hme.fn ?_
 refine wpAny_mono (IQ (us:=[.ref p,u]) (vs:=[.ref p,y]) F (hr.mono hk) (L2N.passAt tk σ) I2 (.cons rfl (.cons ry .nil)) q2) (fun r s3 z=>?_) fun _ _ x=>x
 obtain ⟨w,H3,I3,rw,⟨b,rfl⟩,q3⟩:=z
 obtain rfl:r=Value.bool b:=rw
 exact ⟨.bl b,H3,I3,rfl,q3⟩
theorem XX{K:PySem.W.Frag}(ha:D3 K W ta fa la)(hb:D3 K W tb fb lb):D3 K W (kZ K L (WE W) ta tb) (El L fa fb) []:=by
 intro μ H0 A0 ρ σ H Q s h
 refine ha _ _ _ _ _ _ _ s (h.seq fun x ex h1 v1 H1 s1 r1=>?_)
 refine hb _ _ _ _ _ _ _ (s.grow s1) ((h1.grow s1).seq fun y ey h2 v2 H2 s2 r2=>?_)
 clear ex ey
 cases x <;> try (exact False.elim h2)
 rename_i C ns ds
 simp only at h2
 cases el:L.lookup C with
 | none=>rw [el] at h2; exact False.elim h2
 | some ψ=>
  rw [el] at h2
  simp only at h2
  by_cases hq:bj L y=true
  case neg=>rw [if_neg hq] at h2; exact False.elim h2
  rw [if_pos hq] at h2
  have r1':=r1
  unfold Rep at r1
  obtain ⟨p,dx,fl,rfl,_,h3,_,_⟩:=r1
  refine ⟨C,ψ,p,dx,fl,lookup_mem el,rfl,s2 _ _ h3,?_,?_⟩
  ·cases y with
   | obj D ns' ds'=>
    obtain ⟨ψ',e'⟩:=Option.isSome_iff_exists.mp (show (L.lookup D).isSome=true from hq)
    unfold Rep at r2
    obtain ⟨p',dx',fl',rfl,_,h4,_,_⟩:=r2
    exact .inr ⟨p',D,ψ',dx',fl',lookup_mem e',rfl,h4⟩
   | _=>exact eJ hq r2 (fun _ _ _ z=>by cases z)
  ·refine ⟨[.obj C ns ds,y],Av ⟨K,μ⟩ A0 ρ σ (la ++ lb),μ,Ah.cons ((r1'.same s2).BZ fun _=>bf) (Ah.cons (r2.BZ fun _=>bZ) Ah.nil),fun a z=>(s.grow (s1.trans s2)).Ec z,?_⟩
   unfold LB
   cases eo:ψ [.obj C ns ds,y] with
   | ok d=>
    rw [eo] at h2
    cases d <;> try (exact False.elim h2)
    rename_i b
    intro v H' s' r
    obtain rfl:v=.bl b:=r
    exact ⟨⟨b,rfl⟩,h2 (.bl b) H' ((s1.trans s2).trans s') rfl⟩
   | exc x=>rw [eo] at h2; exact fun c od H' s' r=>h2 c od H' (s2.trans s') r
   | bad=>rw [eo] at h2; exact h2
theorem TX(hL:∀ q∈L,MeC X.prog X.w X.K X.mg X.base k q.1 "__eq__" q.2)(hE:∀ q∈L,EqC X.K L q.1)(tk:L2N.Takes X W)(hr:Room j X.A)(hk:k≤j)(ha:Bv X W a fa la)(hb:Bv X W b fb lb):Bv X W (.Compare a [.Eq] [b] pos) (El L fa fb) []:=by
 obtain ⟨ta,pa,da⟩:=ha
 obtain ⟨tb,pb,db⟩:=hb
 exact ⟨_,pe_cmp (bO hL hE tk hr hk pa pb) ,XX da db⟩
theorem IJ(hL:∀ q∈L,MeC X.prog X.w X.K X.mg X.base k q.1 "__eq__" q.2)(hE:∀ q∈L,EqC X.K L q.1)(tk:L2N.Takes X W)(hr:Room j X.A)(hk:k≤j)(ha:Bv X W a fa la)(hb:Bv X W b fb lb):VP X W (.Compare a [.Eq] [b] pos) (t1 (El L fa fb) AR) []:=by
 obtain ⟨ta,pa,da⟩:=ha
 obtain ⟨tb,pb,db⟩:=hb
 refine ⟨_,pt_cmp (bO hL hE tk hr hk pa pb),fun μ H0 A0 ρ σ H Q s h=>?_⟩
 refine XX da db _ _ _ _ _ _ _ s (h.seq fun x ex h1 v1 H1 s1 r1=>?_)
 obtain ⟨k,e,q⟩:=B6 h1
 cases x with
 | bl b=>
  obtain rfl:v1=.bl b:=r1
  cases e
  exact ⟨_,rfl,q H1 s1⟩
 | _=>
  exfalso
  unfold El at ex
  obtain ⟨x,_,ex⟩:=Out.Gh ex
  obtain ⟨y,_,ex⟩:=Out.Gh ex
  cases x <;> try (cases ex; done)
  simp only at ex
  split at ex
  ·split at ex
   ·rename_i ψ _ _
    revert ex
    cases ψ [Dt.obj _ _ _,y] with
    | ok d=>cases d <;> intro ex <;> cases ex
    | exc x=>intro ex; cases ex
    | bad=>intro ex; cases ex
   ·cases ex
  ·cases ex
end
end FD
namespace FD
open PySem L2 PyProof.Rows PySem.Spec
section
variable {P:Program} {w:World} {K:PySem.W.Frag} {mg:Str→Option Value} {base:Heap}
end
end FD
namespace FD
open PySem L2 PyProof.Rows PySem.Spec
section
variable {X:Cx} {W:WX} {S T:List Nat} {n:Nat} {u:Dt→Env→Option Env} {t:Env→Out Bool} {f:Env→Out Dt} {lk lt le:List Nat}
end
def gu:Value→Bool
 | .type _=>true
 | _=>false
theorem hK{t:String}(h:t∈tys):∃ l,PySem.fastBuiltinMro t=some l∧l.all gu=true:=by
 have e:(PySem.fastBuiltinMro t).map (fun l=>l.all gu)=some true:=by
  simp only [tys,List.mem_cons,List.not_mem_nil,or_false] at h
  rcases h with rfl | rfl | rfl | rfl | rfl | rfl | rfl <;> decide +kernel
 obtain ⟨l,h1,h2⟩:=Option.map_eq_some_iff.mp e
 exact ⟨l,h1,h2⟩
theorem aW{K:PySem.W.Frag}{t:String}{C:Addr}(h:t∈tys):PySem.W.subIn K (.type t) (.ref C)=some false:=by
 obtain ⟨l,h1,h2⟩:=hK h
 show (PySem.fastBuiltinMro t).map (·.contains (.ref C))=some false
 rw [h1,Option.map_some]
 congr 1
 cases e:l.contains (Value.ref C) with
 | false=>rfl
 | true=>
  have m:=List.contains_iff_mem.mp e
  have q:=List.all_eq_true.mp h2 _ m
  cases q
theorem ai{K:PySem.W.Frag}{C:Addr}(h1:PySem.W.isClsIn K C=true)(h2:PySem.W.typeIn K (.ref C)=some (.type "type")):∀ t∈tys,PySem.W.kitOne K (.type t) (.ref C)=some false:=fun t h=>iJ rfl h1 h2 (aW h)
theorem fJ{K:PySem.W.Frag}{C:Addr}:∀ t∈tys,PySem.W.notFirst K C (.type t)=true:=fun t h=>by
 unfold PySem.W.notFirst
 rw [aW h]
 simp
theorem ZV{K:PySem.W.Frag}{C:Addr}:PySem.W.notFirst K C (.ref C)=true:=by
 unfold PySem.W.notFirst
 rw [beq_self_eq_true]
 rfl
section
variable {X:Cx} {W:WX}
end
section
variable {P:Program} {w:World} {K:PySem.W.Frag} {mg:Str→Option Value} {base:Heap}
theorem A5{x qual:Str}{params:Arguments}{body:List Stmt}{scope:Scope}{f:Addr}{fd:FuncData}{ps:List Str}(F:FunD K x qual params body scope [] [] f fd)
  (h:∀ (kV doc pm:Value) (an:Option Addr) (cdv ct:Value) (us:List Value),us.length=ps.length→bindArgs (PySem.W.fnOf x qual params body scope .none kV doc pm an cdv ct) ⟨us,[]⟩=pure (ps.zip us)):Binds K fd ps []:=by
 obtain ⟨oc,od,dV,kV,doc,pm,an,cdv,ct,osl,rfl,lk,hcd,hD,_⟩:=F.ex
 rcases hD with ⟨_,rfl⟩ | ⟨z,_⟩
 ·exact .all (h kV doc pm an cdv ct)
 ·exact absurd rfl z
theorem g8{f:Addr}{fd:FuncData}{ps:List Str}{k n:Nat}{φ:List Dt→List Cell→MO}(F:FnOk P w K mg base (L2N.CX P w) k f fd ps (NJ K n φ))(hb:Binds K fd ps []):FnR P w K mg base (L2N.CX P w) k f (gP K (LO n φ)):=by
 refine FnR.imp (F.raw hb .nil) fun vs H Q E h=>?_
 obtain ⟨ds,A,μ,cs,r,hm,ha,hd,hf,h⟩:=h
 unfold LO at h
 by_cases hl:ds.length=n
 case neg=>rw [if_neg hl] at h; exact False.elim h
 rw [if_pos hl] at h
 rw [List.append_nil]
 exact ⟨by rw [r.length]; exact hl,ds,A,μ,cs,r,hm,ha,hd,hf,h⟩
theorem IC{f:Addr}{fd:FuncData}{ps:List Str}{k n:Nat}{φ:List Dt→Out Dt}(F:FnOk P w K mg base (L2N.CX P w) k f fd ps (DA K n φ))(hb:Binds K fd ps []):FnR P w K mg base (L2N.CX P w) k f (OI K (Ct n φ)):=by
 refine FnR.imp (F.raw hb .nil) fun vs H Q E h=>?_
 obtain ⟨ds,A,μ,r,ha,h⟩:=h
 unfold Ct at h
 by_cases hl:ds.length=n
 case neg=>rw [if_neg hl] at h; exact False.elim h
 rw [if_pos hl] at h
 exact ⟨ds,A,μ,by rw [List.append_nil]; exact r,hl,ha,h⟩
end
end FD
namespace Lk16
open PySem L2 PyProof.Rows PySem.Spec FD
def top(i:Nat):Stmt:=PySem.Challenge.pw_bidehall_k16_greater_and_lesser_maps.main.body.getD i (.Pass ⟨0,0,0,0⟩)
def HH(s:Stmt)(j:Nat):Stmt:=match s with
 | .ClassDef _ _ _ b _ _ _ _ _ _ _=>b.getD j (.Pass ⟨0,0,0,0⟩)
 | _=>.Pass ⟨0,0,0,0⟩
abbrev E1:Stmt:=top 10
abbrev EN:Stmt:=top 11
abbrev CY:Stmt:=top 12
abbrev Ew:Stmt:=top 13
abbrev En:Stmt:=top 14
abbrev C7:Stmt:=top 25
abbrev DF:Stmt:=top 26
abbrev BC:Stmt:=top 27
abbrev By:Stmt:=HH (top 34) 0
abbrev EX:Stmt:=top 15
abbrev Es:Stmt:=top 16
abbrev Ex:Stmt:=top 28
abbrev CZ:Stmt:=HH (top 34) 2
abbrev A7:Stmt:=HH (top 34) 13
abbrev BI:Stmt:=top 33
abbrev Cr:Stmt:=HH (top 34) 6
abbrev E6:Stmt:=top 17
abbrev BV:Stmt:=HH (top 34) 7
abbrev BA:Stmt:=HH (top 34) 14
abbrev DL:Stmt:=top 37
abbrev CS:Stmt:=top 38
abbrev Cj:Stmt:=top 39
abbrev C6:Stmt:=top 40
abbrev Cm:Stmt:=top 41
abbrev BU:Stmt:=top 42
abbrev DG:Stmt:=top 43
abbrev Cd:Stmt:=top 44
abbrev Cv:Stmt:=top 45
abbrev DK:Stmt:=HH (top 34) 3
abbrev BQ:Stmt:=HH (top 34) 12
abbrev Cp:Stmt:=top 46
abbrev C0:Stmt:=top 47
abbrev BD:Stmt:=top 36
abbrev C5:Stmt:=top 48
abbrev Bu:Stmt:=top 49
abbrev Ck:Stmt:=top 56
abbrev BW:Stmt:=top 57
abbrev Dh:Stmt:=top 21
abbrev Bo:Stmt:=HH (top 34) 4
abbrev Cq:Stmt:=HH (top 34) 11
abbrev Bt:Stmt:=top 58
abbrev Dk:Stmt:=top 59
abbrev Ce:Stmt:=top 60
abbrev Cn:Stmt:=top 61
abbrev B0:Stmt:=top 50
abbrev B4:Stmt:=top 51
abbrev A6:Stmt:=top 52
abbrev BB:Stmt:=top 54
abbrev BS:Stmt:=top 53
abbrev Cz:Stmt:=top 55
abbrev Bi:Stmt:=top 62
abbrev BE:Stmt:=top 63
abbrev DP:Stmt:=top 18
abbrev Co:Stmt:=top 19
abbrev E5:Stmt:=top 20
abbrev DC:Stmt:=top 30
abbrev BP:Stmt:=HH (top 34) 5
abbrev A2:Stmt:=top 64
abbrev Fu:Stmt:=top 65
structure Cs where
 c_Map:Addr
abbrev Cs.all(cs:Cs):List Addr:=[]
abbrev AF(cs:Cs):List Addr:=[cs.c_Map]
abbrev WG(cs:Cs):List (Addr × Bool):=[(cs.c_Map,true)]
structure Tx (P:Program) (w:World) (K:PySem.W.Frag) (mg:Str→Option Value) (base:Heap) (cs:Cs):Prop where
 n_abs:mg "abs" = none
 n_all:mg "all" = none
 n_any:mg "any" = none
 n_bool:mg "bool" = none
 n_dict:mg "dict" = none
 n_int:mg "int" = none
 n_isinstance:mg "isinstance" = none
 n_len:mg "len" = none
 n_list:mg "list" = none
 n_max:mg "max" = none
 n_min:mg "min" = none
 n_range:mg "range" = none
 n_sorted:mg "sorted" = none
 n_str:mg "str" = none
 n_sum:mg "sum" = none
 n_tuple:mg "tuple" = none
 v_MOST_ROWS:∃ u,mg "MOST_ROWS" = some u∧RelV (.int 200) u
 g_Map:mg "Map" = some (.ref cs.c_Map)
 cl_Map:Cls K cs.c_Map
 no_Map__forms:NoAttr K cs.c_Map "_forms"
 sf_Map:PySem.W.selfFirst K cs.c_Map=true
 in_Map:C8.InsC K cs.c_Map
 ki_Map_Map:PySem.W.kitOne K (.ref cs.c_Map) (.ref cs.c_Map)=some true
 oi_Map:∀ t∈tys,PySem.W.kitOne K (.type t) (.ref cs.c_Map)=some false
 F_row_of:∃ (a:Addr) (fd:FuncData),FunD K "row_of" "row_of" (defArgs E1) (defBody E1) (defScope E1) [] [] a fd∧mg "row_of" = some (.ref a)
 F_within:∃ (a:Addr) (fd:FuncData),FunD K "within" "within" (defArgs EN) (defBody EN) (defScope EN) [] [] a fd∧mg "within" = some (.ref a)
 F_has_below:∃ (a:Addr) (fd:FuncData),FunD K "has_below" "has_below" (defArgs CY) (defBody CY) (defScope CY) [] [] a fd∧mg "has_below" = some (.ref a)
 F_lowest:∃ (a:Addr) (fd:FuncData),FunD K "lowest" "lowest" (defArgs Ew) (defBody Ew) (defScope Ew) [] [] a fd∧mg "lowest" = some (.ref a)
 F_normal:∃ (a:Addr) (fd:FuncData),FunD K "normal" "normal" (defArgs En) (defBody En) (defScope En) [] [] a fd∧mg "normal" = some (.ref a)
 F_need_rows:∃ (a:Addr) (fd:FuncData),FunD K "need_rows" "need_rows" (defArgs C7) (defBody C7) (defScope C7) [] [] a fd∧mg "need_rows" = some (.ref a)
 F_need_few:∃ (a:Addr) (fd:FuncData),FunD K "need_few" "need_few" (defArgs DF) (defBody DF) (defScope DF) [] [] a fd∧mg "need_few" = some (.ref a)
 F_checked_form:∃ (a:Addr) (fd:FuncData),FunD K "checked_form" "checked_form" (defArgs BC) (defBody BC) (defScope BC) [] [] a fd∧mg "checked_form" = some (.ref a)
 F_Map___init__:∃ (a:Addr) (fd:FuncData),FunD K "__init__" "Map.__init__" (defArgs By) (defBody By) (defScope By) [] [] a fd∧Mk K cs.c_Map a
 F_merged:∃ (a:Addr) (fd:FuncData),FunD K "merged" "merged" (defArgs EX) (defBody EX) (defScope EX) [] [] a fd∧mg "merged" = some (.ref a)
 F_joined:∃ (a:Addr) (fd:FuncData),FunD K "joined" "joined" (defArgs Es) (defBody Es) (defScope Es) [] [] a fd∧mg "joined" = some (.ref a)
 F_map_of:∃ (a:Addr) (fd:FuncData),FunD K "map_of" "map_of" (defArgs Ex) (defBody Ex) (defScope Ex) [] [] a fd∧mg "map_of" = some (.ref a)
 F_Map_names:∃ (a:Addr) (fd:FuncData),FunD K "names" "Map.names" (defArgs CZ) (defBody CZ) (defScope CZ) [] [] a fd∧Meth K cs.c_Map "names" a
 F_Map___contains__:∃ (a:Addr) (fd:FuncData),FunD K "__contains__" "Map.__contains__" (defArgs A7) (defBody A7) (defScope A7) [] [] a fd∧Meth K cs.c_Map "__contains__" a
 F_need_alike:∃ (a:Addr) (fd:FuncData),FunD K "need_alike" "need_alike" (defArgs BI) (defBody BI) (defScope BI) [] [] a fd∧mg "need_alike" = some (.ref a)
 F_Map___or__:∃ (a:Addr) (fd:FuncData),FunD K "__or__" "Map.__or__" (defArgs Cr) (defBody Cr) (defScope Cr) [] [] a fd∧Meth K cs.c_Map "__or__" a
 F_either:∃ (a:Addr) (fd:FuncData),FunD K "either" "either" (defArgs E6) (defBody E6) (defScope E6) [] [] a fd∧mg "either" = some (.ref a)
 F_Map___and__:∃ (a:Addr) (fd:FuncData),FunD K "__and__" "Map.__and__" (defArgs BV) (defBody BV) (defScope BV) [] [] a fd∧Meth K cs.c_Map "__and__" a
 F_Map_is_below:∃ (a:Addr) (fd:FuncData),FunD K "is_below" "Map.is_below" (defArgs BA) (defBody BA) (defScope BA) [] [] a fd∧Meth K cs.c_Map "is_below" a
 F__law_box:∃ (a:Addr) (fd:FuncData),FunD K "_law_box" "_law_box" (defArgs DL) (defBody DL) (defScope DL) [] [] a fd∧mg "_law_box" = some (.ref a)
 F__law_take:∃ (a:Addr) (fd:FuncData),FunD K "_law_take" "_law_take" (defArgs CS) (defBody CS) (defScope CS) [] [] a fd∧mg "_law_take" = some (.ref a)
 F__law_fresh:∃ (a:Addr) (fd:FuncData),FunD K "_law_fresh" "_law_fresh" (defArgs Cj) (defBody Cj) (defScope Cj) [] [] a fd∧mg "_law_fresh" = some (.ref a)
 F__law_word:∃ (a:Addr) (fd:FuncData),FunD K "_law_word" "_law_word" (defArgs C6) (defBody C6) (defScope C6) [] [] a fd∧mg "_law_word" = some (.ref a)
 F__law_names:∃ (a:Addr) (fd:FuncData),FunD K "_law_names" "_law_names" (defArgs Cm) (defBody Cm) (defScope Cm) [] [] a fd∧mg "_law_names" = some (.ref a)
 F__law_spread:∃ (a:Addr) (fd:FuncData),FunD K "_law_spread" "_law_spread" (defArgs BU) (defBody BU) (defScope BU) [] [] a fd∧mg "_law_spread" = some (.ref a)
 F__law_row:∃ (a:Addr) (fd:FuncData),FunD K "_law_row" "_law_row" (defArgs DG) (defBody DG) (defScope DG) [] [] a fd∧mg "_law_row" = some (.ref a)
 F__law_rules:∃ (a:Addr) (fd:FuncData),FunD K "_law_rules" "_law_rules" (defArgs Cd) (defBody Cd) (defScope Cd) [] [] a fd∧mg "_law_rules" = some (.ref a)
 F__law_copy:∃ (a:Addr) (fd:FuncData),FunD K "_law_copy" "_law_copy" (defArgs Cv) (defBody Cv) (defScope Cv) [] [] a fd∧mg "_law_copy" = some (.ref a)
 F_Map_form:∃ (a:Addr) (fd:FuncData),FunD K "form" "Map.form" (defArgs DK) (defBody DK) (defScope DK) [] [] a fd∧Meth K cs.c_Map "form" a
 F_Map___len__:∃ (a:Addr) (fd:FuncData),FunD K "__len__" "Map.__len__" (defArgs BQ) (defBody BQ) (defScope BQ) [] [] a fd∧Meth K cs.c_Map "__len__" a
 F__law_below:∃ (a:Addr) (fd:FuncData),FunD K "_law_below" "_law_below" (defArgs Cp) (defBody Cp) (defScope Cp) [] [] a fd∧mg "_law_below" = some (.ref a)
 F__law_flat:∃ (a:Addr) (fd:FuncData),FunD K "_law_flat" "_law_flat" (defArgs C0) (defBody C0) (defScope C0) [] [] a fd∧mg "_law_flat" = some (.ref a)
 F__law_integer:∃ (a:Addr) (fd:FuncData),FunD K "_law_integer" "_law_integer" (defArgs BD) (defBody BD) (defScope BD) [] [] a fd∧mg "_law_integer" = some (.ref a)
 F__law_form:∃ (a:Addr) (fd:FuncData),FunD K "_law_form" "_law_form" (defArgs C5) (defBody C5) (defScope C5) [] [] a fd∧mg "_law_form" = some (.ref a)
 F__law_normal:∃ (a:Addr) (fd:FuncData),FunD K "_law_normal" "_law_normal" (defArgs Bu) (defBody Bu) (defScope Bu) [] [] a fd∧mg "_law_normal" = some (.ref a)
 F__law_right:∃ (a:Addr) (fd:FuncData),FunD K "_law_right" "_law_right" (defArgs Ck) (defBody Ck) (defScope Ck) [] [] a fd∧mg "_law_right" = some (.ref a)
 F__law_raised:∃ (a:Addr) (fd:FuncData),FunD K "_law_raised" "_law_raised" (defArgs BW) (defBody BW) (defScope BW) [] [] a fd∧mg "_law_raised" = some (.ref a)
 F_value_of:∃ (a:Addr) (fd:FuncData),FunD K "value_of" "value_of" (defArgs Dh) (defBody Dh) (defScope Dh) [] [] a fd∧mg "value_of" = some (.ref a)
 F_Map___call__:∃ (a:Addr) (fd:FuncData),FunD K "__call__" "Map.__call__" (defArgs Bo) (defBody Bo) (defScope Bo) [] [] a fd∧Meth K cs.c_Map "__call__" a
 F_Map___eq__:∃ (a:Addr) (fd:FuncData),FunD K "__eq__" "Map.__eq__" (defArgs Cq) (defBody Cq) (defScope Cq) [] [] a fd∧Meth K cs.c_Map "__eq__" a
 F__law_lacking:∃ (a:Addr) (fd:FuncData),FunD K "_law_lacking" "_law_lacking" (defArgs Bt) (defBody Bt) (defScope Bt) [] [] a fd∧mg "_law_lacking" = some (.ref a)
 F__law_far:∃ (a:Addr) (fd:FuncData),FunD K "_law_far" "_law_far" (defArgs Dk) (defBody Dk) (defScope Dk) [] [] a fd∧mg "_law_far" = some (.ref a)
 F__law_truth:∃ (a:Addr) (fd:FuncData),FunD K "_law_truth" "_law_truth" (defArgs Ce) (defBody Ce) (defScope Ce) [] [] a fd∧mg "_law_truth" = some (.ref a)
 F__law_order:∃ (a:Addr) (fd:FuncData),FunD K "_law_order" "_law_order" (defArgs Cn) (defBody Cn) (defScope Cn) [] [] a fd∧mg "_law_order" = some (.ref a)
 F__law_value:∃ (a:Addr) (fd:FuncData),FunD K "_law_value" "_law_value" (defArgs B0) (defBody B0) (defScope B0) [] [] a fd∧mg "_law_value" = some (.ref a)
 F__law_gives:∃ (a:Addr) (fd:FuncData),FunD K "_law_gives" "_law_gives" (defArgs B4) (defBody B4) (defScope B4) [] [] a fd∧mg "_law_gives" = some (.ref a)
 F__law_drawn_point:∃ (a:Addr) (fd:FuncData),FunD K "_law_drawn_point" "_law_drawn_point" (defArgs A6) (defBody A6) (defScope A6) [] [] a fd∧mg "_law_drawn_point" = some (.ref a)
 F__law_either:∃ (a:Addr) (fd:FuncData),FunD K "_law_either" "_law_either" (defArgs BB) (defBody BB) (defScope BB) [] [] a fd∧mg "_law_either" = some (.ref a)
 F__law_joined:∃ (a:Addr) (fd:FuncData),FunD K "_law_joined" "_law_joined" (defArgs BS) (defBody BS) (defScope BS) [] [] a fd∧mg "_law_joined" = some (.ref a)
 F__law_both:∃ (a:Addr) (fd:FuncData),FunD K "_law_both" "_law_both" (defArgs Cz) (defBody Cz) (defScope Cz) [] [] a fd∧mg "_law_both" = some (.ref a)
 F__law_pointwise:∃ (a:Addr) (fd:FuncData),FunD K "_law_pointwise" "_law_pointwise" (defArgs Bi) (defBody Bi) (defScope Bi) [] [] a fd∧mg "_law_pointwise" = some (.ref a)
 F__law_lattice:∃ (a:Addr) (fd:FuncData),FunD K "_law_lattice" "_law_lattice" (defArgs BE) (defBody BE) (defScope BE) [] [] a fd∧mg "_law_lattice" = some (.ref a)
 F_shifted:∃ (a:Addr) (fd:FuncData),FunD K "shifted" "shifted" (defArgs DP) (defBody DP) (defScope DP) [] [] a fd∧mg "shifted" = some (.ref a)
 F_placed_row:∃ (a:Addr) (fd:FuncData),FunD K "placed_row" "placed_row" (defArgs Co) (defBody Co) (defScope Co) [] [] a fd∧mg "placed_row" = some (.ref a)
 F_placed:∃ (a:Addr) (fd:FuncData),FunD K "placed" "placed" (defArgs E5) (defBody E5) (defScope E5) [] [] a fd∧mg "placed" = some (.ref a)
 F_composed:∃ (a:Addr) (fd:FuncData),FunD K "composed" "composed" (defArgs DC) (defBody DC) (defScope DC) [] [] a fd∧mg "composed" = some (.ref a)
 F_Map___mul__:∃ (a:Addr) (fd:FuncData),FunD K "__mul__" "Map.__mul__" (defArgs BP) (defBody BP) (defScope BP) [] [] a fd∧Meth K cs.c_Map "__mul__" a
 F__law_on_the_right:∃ (a:Addr) (fd:FuncData),FunD K "_law_on_the_right" "_law_on_the_right" (defArgs A2) (defBody A2) (defScope A2) [] [] a fd∧mg "_law_on_the_right" = some (.ref a)
 F_law:∃ (a:Addr) (fd:FuncData),FunD K "law" "law" (defArgs Fu) (defBody Fu) (defScope Fu) [] [] a fd∧mg "law" = some (.ref a)
theorem all_mk{w:World}{K:PySem.W.Frag}{h:Heap}{mg:Str→Option Value}{fa:Addr}(X:K.In h)(G:h.Ns mainGlobals mg)(hfa:mg "law" = some (.ref fa))
  {kt_MOST_ROWS:Tok} {c_Map:Addr} {f_row_of:Addr} {oc_row_of:Value} {od_row_of:Option Addr} {kV_row_of:Value} {dc_row_of:Value} {pm_row_of:Value} {an_row_of:Option Addr} {cd_row_of:Value} {ct_row_of:Value} {sl_row_of:Array (Option Value)} {f_within:Addr} {oc_within:Value} {od_within:Option Addr} {kV_within:Value} {dc_within:Value} {pm_within:Value} {an_within:Option Addr} {cd_within:Value} {ct_within:Value} {sl_within:Array (Option Value)} {f_has_below:Addr} {oc_has_below:Value} {od_has_below:Option Addr} {kV_has_below:Value} {dc_has_below:Value} {pm_has_below:Value} {an_has_below:Option Addr} {cd_has_below:Value} {ct_has_below:Value} {sl_has_below:Array (Option Value)} {f_lowest:Addr} {oc_lowest:Value} {od_lowest:Option Addr} {kV_lowest:Value} {dc_lowest:Value} {pm_lowest:Value} {an_lowest:Option Addr} {cd_lowest:Value} {ct_lowest:Value} {sl_lowest:Array (Option Value)} {f_normal:Addr} {oc_normal:Value} {od_normal:Option Addr} {kV_normal:Value} {dc_normal:Value} {pm_normal:Value} {an_normal:Option Addr} {cd_normal:Value} {ct_normal:Value} {sl_normal:Array (Option Value)} {f_need_rows:Addr} {oc_need_rows:Value} {od_need_rows:Option Addr} {kV_need_rows:Value} {dc_need_rows:Value} {pm_need_rows:Value} {an_need_rows:Option Addr} {cd_need_rows:Value} {ct_need_rows:Value} {sl_need_rows:Array (Option Value)} {f_need_few:Addr} {oc_need_few:Value} {od_need_few:Option Addr} {kV_need_few:Value} {dc_need_few:Value} {pm_need_few:Value} {an_need_few:Option Addr} {cd_need_few:Value} {ct_need_few:Value} {sl_need_few:Array (Option Value)} {f_checked_form:Addr} {oc_checked_form:Value} {od_checked_form:Option Addr} {kV_checked_form:Value} {dc_checked_form:Value} {pm_checked_form:Value} {an_checked_form:Option Addr} {cd_checked_form:Value} {ct_checked_form:Value} {sl_checked_form:Array (Option Value)} {f_Map___init__:Addr} {oc_Map___init__:Value} {od_Map___init__:Option Addr} {kV_Map___init__:Value} {dc_Map___init__:Value} {pm_Map___init__:Value} {an_Map___init__:Option Addr} {cd_Map___init__:Value} {ct_Map___init__:Value} {sl_Map___init__:Array (Option Value)} {f_merged:Addr} {oc_merged:Value} {od_merged:Option Addr} {kV_merged:Value} {dc_merged:Value} {pm_merged:Value} {an_merged:Option Addr} {cd_merged:Value} {ct_merged:Value} {sl_merged:Array (Option Value)} {f_joined:Addr} {oc_joined:Value} {od_joined:Option Addr} {kV_joined:Value} {dc_joined:Value} {pm_joined:Value} {an_joined:Option Addr} {cd_joined:Value} {ct_joined:Value} {sl_joined:Array (Option Value)} {f_map_of:Addr} {oc_map_of:Value} {od_map_of:Option Addr} {kV_map_of:Value} {dc_map_of:Value} {pm_map_of:Value} {an_map_of:Option Addr} {cd_map_of:Value} {ct_map_of:Value} {sl_map_of:Array (Option Value)} {f_Map_names:Addr} {oc_Map_names:Value} {od_Map_names:Option Addr} {kV_Map_names:Value} {dc_Map_names:Value} {pm_Map_names:Value} {an_Map_names:Option Addr} {cd_Map_names:Value} {ct_Map_names:Value} {sl_Map_names:Array (Option Value)} {f_Map___contains__:Addr} {oc_Map___contains__:Value} {od_Map___contains__:Option Addr} {kV_Map___contains__:Value} {dc_Map___contains__:Value} {pm_Map___contains__:Value} {an_Map___contains__:Option Addr} {cd_Map___contains__:Value} {ct_Map___contains__:Value} {sl_Map___contains__:Array (Option Value)} {f_need_alike:Addr} {oc_need_alike:Value} {od_need_alike:Option Addr} {kV_need_alike:Value} {dc_need_alike:Value} {pm_need_alike:Value} {an_need_alike:Option Addr} {cd_need_alike:Value} {ct_need_alike:Value} {sl_need_alike:Array (Option Value)} {f_Map___or__:Addr} {oc_Map___or__:Value} {od_Map___or__:Option Addr} {kV_Map___or__:Value} {dc_Map___or__:Value} {pm_Map___or__:Value} {an_Map___or__:Option Addr} {cd_Map___or__:Value} {ct_Map___or__:Value} {sl_Map___or__:Array (Option Value)} {f_either:Addr} {oc_either:Value} {od_either:Option Addr} {kV_either:Value} {dc_either:Value} {pm_either:Value} {an_either:Option Addr} {cd_either:Value} {ct_either:Value} {sl_either:Array (Option Value)} {f_Map___and__:Addr} {oc_Map___and__:Value} {od_Map___and__:Option Addr} {kV_Map___and__:Value} {dc_Map___and__:Value} {pm_Map___and__:Value} {an_Map___and__:Option Addr} {cd_Map___and__:Value} {ct_Map___and__:Value} {sl_Map___and__:Array (Option Value)} {f_Map_is_below:Addr} {oc_Map_is_below:Value} {od_Map_is_below:Option Addr} {kV_Map_is_below:Value} {dc_Map_is_below:Value} {pm_Map_is_below:Value} {an_Map_is_below:Option Addr} {cd_Map_is_below:Value} {ct_Map_is_below:Value} {sl_Map_is_below:Array (Option Value)} {f__law_box:Addr} {oc__law_box:Value} {od__law_box:Option Addr} {kV__law_box:Value} {dc__law_box:Value} {pm__law_box:Value} {an__law_box:Option Addr} {cd__law_box:Value} {ct__law_box:Value} {sl__law_box:Array (Option Value)} {f__law_take:Addr} {oc__law_take:Value} {od__law_take:Option Addr} {kV__law_take:Value} {dc__law_take:Value} {pm__law_take:Value} {an__law_take:Option Addr} {cd__law_take:Value} {ct__law_take:Value} {sl__law_take:Array (Option Value)} {f__law_fresh:Addr} {oc__law_fresh:Value} {od__law_fresh:Option Addr} {kV__law_fresh:Value} {dc__law_fresh:Value} {pm__law_fresh:Value} {an__law_fresh:Option Addr} {cd__law_fresh:Value} {ct__law_fresh:Value} {sl__law_fresh:Array (Option Value)} {f__law_word:Addr} {oc__law_word:Value} {od__law_word:Option Addr} {kV__law_word:Value} {dc__law_word:Value} {pm__law_word:Value} {an__law_word:Option Addr} {cd__law_word:Value} {ct__law_word:Value} {sl__law_word:Array (Option Value)} {f__law_names:Addr} {oc__law_names:Value} {od__law_names:Option Addr} {kV__law_names:Value} {dc__law_names:Value} {pm__law_names:Value} {an__law_names:Option Addr} {cd__law_names:Value} {ct__law_names:Value} {sl__law_names:Array (Option Value)} {f__law_spread:Addr} {oc__law_spread:Value} {od__law_spread:Option Addr} {kV__law_spread:Value} {dc__law_spread:Value} {pm__law_spread:Value} {an__law_spread:Option Addr} {cd__law_spread:Value} {ct__law_spread:Value} {sl__law_spread:Array (Option Value)} {f__law_row:Addr} {oc__law_row:Value} {od__law_row:Option Addr} {kV__law_row:Value} {dc__law_row:Value} {pm__law_row:Value} {an__law_row:Option Addr} {cd__law_row:Value} {ct__law_row:Value} {sl__law_row:Array (Option Value)} {f__law_rules:Addr} {oc__law_rules:Value} {od__law_rules:Option Addr} {kV__law_rules:Value} {dc__law_rules:Value} {pm__law_rules:Value} {an__law_rules:Option Addr} {cd__law_rules:Value} {ct__law_rules:Value} {sl__law_rules:Array (Option Value)} {f__law_copy:Addr} {oc__law_copy:Value} {od__law_copy:Option Addr} {kV__law_copy:Value} {dc__law_copy:Value} {pm__law_copy:Value} {an__law_copy:Option Addr} {cd__law_copy:Value} {ct__law_copy:Value} {sl__law_copy:Array (Option Value)} {f_Map_form:Addr} {oc_Map_form:Value} {od_Map_form:Option Addr} {kV_Map_form:Value} {dc_Map_form:Value} {pm_Map_form:Value} {an_Map_form:Option Addr} {cd_Map_form:Value} {ct_Map_form:Value} {sl_Map_form:Array (Option Value)} {f_Map___len__:Addr} {oc_Map___len__:Value} {od_Map___len__:Option Addr} {kV_Map___len__:Value} {dc_Map___len__:Value} {pm_Map___len__:Value} {an_Map___len__:Option Addr} {cd_Map___len__:Value} {ct_Map___len__:Value} {sl_Map___len__:Array (Option Value)} {f__law_below:Addr} {oc__law_below:Value} {od__law_below:Option Addr} {kV__law_below:Value} {dc__law_below:Value} {pm__law_below:Value} {an__law_below:Option Addr} {cd__law_below:Value} {ct__law_below:Value} {sl__law_below:Array (Option Value)} {f__law_flat:Addr} {oc__law_flat:Value} {od__law_flat:Option Addr} {kV__law_flat:Value} {dc__law_flat:Value} {pm__law_flat:Value} {an__law_flat:Option Addr} {cd__law_flat:Value} {ct__law_flat:Value} {sl__law_flat:Array (Option Value)} {f__law_integer:Addr} {oc__law_integer:Value} {od__law_integer:Option Addr} {kV__law_integer:Value} {dc__law_integer:Value} {pm__law_integer:Value} {an__law_integer:Option Addr} {cd__law_integer:Value} {ct__law_integer:Value} {sl__law_integer:Array (Option Value)} {f__law_form:Addr} {oc__law_form:Value} {od__law_form:Option Addr} {kV__law_form:Value} {dc__law_form:Value} {pm__law_form:Value} {an__law_form:Option Addr} {cd__law_form:Value} {ct__law_form:Value} {sl__law_form:Array (Option Value)} {f__law_normal:Addr} {oc__law_normal:Value} {od__law_normal:Option Addr} {kV__law_normal:Value} {dc__law_normal:Value} {pm__law_normal:Value} {an__law_normal:Option Addr} {cd__law_normal:Value} {ct__law_normal:Value} {sl__law_normal:Array (Option Value)} {f__law_right:Addr} {oc__law_right:Value} {od__law_right:Option Addr} {kV__law_right:Value} {dc__law_right:Value} {pm__law_right:Value} {an__law_right:Option Addr} {cd__law_right:Value} {ct__law_right:Value} {sl__law_right:Array (Option Value)} {f__law_raised:Addr} {oc__law_raised:Value} {od__law_raised:Option Addr} {kV__law_raised:Value} {dc__law_raised:Value} {pm__law_raised:Value} {an__law_raised:Option Addr} {cd__law_raised:Value} {ct__law_raised:Value} {sl__law_raised:Array (Option Value)} {f_value_of:Addr} {oc_value_of:Value} {od_value_of:Option Addr} {kV_value_of:Value} {dc_value_of:Value} {pm_value_of:Value} {an_value_of:Option Addr} {cd_value_of:Value} {ct_value_of:Value} {sl_value_of:Array (Option Value)} {f_Map___call__:Addr} {oc_Map___call__:Value} {od_Map___call__:Option Addr} {kV_Map___call__:Value} {dc_Map___call__:Value} {pm_Map___call__:Value} {an_Map___call__:Option Addr} {cd_Map___call__:Value} {ct_Map___call__:Value} {sl_Map___call__:Array (Option Value)} {f_Map___eq__:Addr} {oc_Map___eq__:Value} {od_Map___eq__:Option Addr} {kV_Map___eq__:Value} {dc_Map___eq__:Value} {pm_Map___eq__:Value} {an_Map___eq__:Option Addr} {cd_Map___eq__:Value} {ct_Map___eq__:Value} {sl_Map___eq__:Array (Option Value)} {f__law_lacking:Addr} {oc__law_lacking:Value} {od__law_lacking:Option Addr} {kV__law_lacking:Value} {dc__law_lacking:Value} {pm__law_lacking:Value} {an__law_lacking:Option Addr} {cd__law_lacking:Value} {ct__law_lacking:Value} {sl__law_lacking:Array (Option Value)} {f__law_far:Addr} {oc__law_far:Value} {od__law_far:Option Addr} {kV__law_far:Value} {dc__law_far:Value} {pm__law_far:Value} {an__law_far:Option Addr} {cd__law_far:Value} {ct__law_far:Value} {sl__law_far:Array (Option Value)} {f__law_truth:Addr} {oc__law_truth:Value} {od__law_truth:Option Addr} {kV__law_truth:Value} {dc__law_truth:Value} {pm__law_truth:Value} {an__law_truth:Option Addr} {cd__law_truth:Value} {ct__law_truth:Value} {sl__law_truth:Array (Option Value)} {f__law_order:Addr} {oc__law_order:Value} {od__law_order:Option Addr} {kV__law_order:Value} {dc__law_order:Value} {pm__law_order:Value} {an__law_order:Option Addr} {cd__law_order:Value} {ct__law_order:Value} {sl__law_order:Array (Option Value)} {f__law_value:Addr} {oc__law_value:Value} {od__law_value:Option Addr} {kV__law_value:Value} {dc__law_value:Value} {pm__law_value:Value} {an__law_value:Option Addr} {cd__law_value:Value} {ct__law_value:Value} {sl__law_value:Array (Option Value)} {f__law_gives:Addr} {oc__law_gives:Value} {od__law_gives:Option Addr} {kV__law_gives:Value} {dc__law_gives:Value} {pm__law_gives:Value} {an__law_gives:Option Addr} {cd__law_gives:Value} {ct__law_gives:Value} {sl__law_gives:Array (Option Value)} {f__law_drawn_point:Addr} {oc__law_drawn_point:Value} {od__law_drawn_point:Option Addr} {kV__law_drawn_point:Value} {dc__law_drawn_point:Value} {pm__law_drawn_point:Value} {an__law_drawn_point:Option Addr} {cd__law_drawn_point:Value} {ct__law_drawn_point:Value} {sl__law_drawn_point:Array (Option Value)} {f__law_either:Addr} {oc__law_either:Value} {od__law_either:Option Addr} {kV__law_either:Value} {dc__law_either:Value} {pm__law_either:Value} {an__law_either:Option Addr} {cd__law_either:Value} {ct__law_either:Value} {sl__law_either:Array (Option Value)} {f__law_joined:Addr} {oc__law_joined:Value} {od__law_joined:Option Addr} {kV__law_joined:Value} {dc__law_joined:Value} {pm__law_joined:Value} {an__law_joined:Option Addr} {cd__law_joined:Value} {ct__law_joined:Value} {sl__law_joined:Array (Option Value)} {f__law_both:Addr} {oc__law_both:Value} {od__law_both:Option Addr} {kV__law_both:Value} {dc__law_both:Value} {pm__law_both:Value} {an__law_both:Option Addr} {cd__law_both:Value} {ct__law_both:Value} {sl__law_both:Array (Option Value)} {f__law_pointwise:Addr} {oc__law_pointwise:Value} {od__law_pointwise:Option Addr} {kV__law_pointwise:Value} {dc__law_pointwise:Value} {pm__law_pointwise:Value} {an__law_pointwise:Option Addr} {cd__law_pointwise:Value} {ct__law_pointwise:Value} {sl__law_pointwise:Array (Option Value)} {f__law_lattice:Addr} {oc__law_lattice:Value} {od__law_lattice:Option Addr} {kV__law_lattice:Value} {dc__law_lattice:Value} {pm__law_lattice:Value} {an__law_lattice:Option Addr} {cd__law_lattice:Value} {ct__law_lattice:Value} {sl__law_lattice:Array (Option Value)} {f_shifted:Addr} {oc_shifted:Value} {od_shifted:Option Addr} {kV_shifted:Value} {dc_shifted:Value} {pm_shifted:Value} {an_shifted:Option Addr} {cd_shifted:Value} {ct_shifted:Value} {sl_shifted:Array (Option Value)} {f_placed_row:Addr} {oc_placed_row:Value} {od_placed_row:Option Addr} {kV_placed_row:Value} {dc_placed_row:Value} {pm_placed_row:Value} {an_placed_row:Option Addr} {cd_placed_row:Value} {ct_placed_row:Value} {sl_placed_row:Array (Option Value)} {f_placed:Addr} {oc_placed:Value} {od_placed:Option Addr} {kV_placed:Value} {dc_placed:Value} {pm_placed:Value} {an_placed:Option Addr} {cd_placed:Value} {ct_placed:Value} {sl_placed:Array (Option Value)} {f_composed:Addr} {oc_composed:Value} {od_composed:Option Addr} {kV_composed:Value} {dc_composed:Value} {pm_composed:Value} {an_composed:Option Addr} {cd_composed:Value} {ct_composed:Value} {sl_composed:Array (Option Value)} {f_Map___mul__:Addr} {oc_Map___mul__:Value} {od_Map___mul__:Option Addr} {kV_Map___mul__:Value} {dc_Map___mul__:Value} {pm_Map___mul__:Value} {an_Map___mul__:Option Addr} {cd_Map___mul__:Value} {ct_Map___mul__:Value} {sl_Map___mul__:Array (Option Value)} {f__law_on_the_right:Addr} {oc__law_on_the_right:Value} {od__law_on_the_right:Option Addr} {kV__law_on_the_right:Value} {dc__law_on_the_right:Value} {pm__law_on_the_right:Value} {an__law_on_the_right:Option Addr} {cd__law_on_the_right:Value} {ct__law_on_the_right:Value} {sl__law_on_the_right:Array (Option Value)} {f_law:Addr} {oc_law:Value} {od_law:Option Addr} {kV_law:Value} {dc_law:Value} {pm_law:Value} {an_law:Option Addr} {cd_law:Value} {ct_law:Value} {sl_law:Array (Option Value)}
  (z_abs:PySem.W.nsIn K mainGlobals "abs" = some none)
  (z_all:PySem.W.nsIn K mainGlobals "all" = some none)
  (z_any:PySem.W.nsIn K mainGlobals "any" = some none)
  (z_bool:PySem.W.nsIn K mainGlobals "bool" = some none)
  (z_dict:PySem.W.nsIn K mainGlobals "dict" = some none)
  (z_int:PySem.W.nsIn K mainGlobals "int" = some none)
  (z_isinstance:PySem.W.nsIn K mainGlobals "isinstance" = some none)
  (z_len:PySem.W.nsIn K mainGlobals "len" = some none)
  (z_list:PySem.W.nsIn K mainGlobals "list" = some none)
  (z_max:PySem.W.nsIn K mainGlobals "max" = some none)
  (z_min:PySem.W.nsIn K mainGlobals "min" = some none)
  (z_range:PySem.W.nsIn K mainGlobals "range" = some none)
  (z_sorted:PySem.W.nsIn K mainGlobals "sorted" = some none)
  (z_str:PySem.W.nsIn K mainGlobals "str" = some none)
  (z_sum:PySem.W.nsIn K mainGlobals "sum" = some none)
  (z_tuple:PySem.W.nsIn K mainGlobals "tuple" = some none)
  (kv_MOST_ROWS:PySem.W.nsIn K mainGlobals "MOST_ROWS" = some (some (.int 200 kt_MOST_ROWS)))
  (a_Map:PySem.W.nsIn K mainGlobals "Map" = some (some (.ref c_Map)))
  (pg_Map:PySem.W.plainGet K c_Map Str.empty=true)
  (hdd_Map:PySem.W.hasDictIn K c_Map=true)
  (po_Map:PySem.W.plainOver K c_Map=true)
  (sat_Map:PySem.W.findIn K (.ref c_Map) "__setattr__" = some (some (.builtin "object.__setattr__")))
  (mi_Map:PySem.W.makesIn K c_Map=true)
  (kpc_Map:PySem.W.keepIn K (.ref c_Map)=true)
  (hac_Map:PySem.W.findIn K (.ref c_Map) "__class__" = some (some (.builtin "object.__class__")))
  (hoc_Map:PySem.W.mroIn K c_Map (.type "object")=some true)
  (noa_Map__forms:PySem.W.findIn K (.ref c_Map) "_forms" = some none)
  (sfq_Map:PySem.W.selfFirst K c_Map=true)
  (cio_Map:PySem.W.isClsIn K c_Map=true)
  (cto_Map:PySem.W.typeIn K (.ref c_Map)=some (.type "type"))
  (hn:PySem.W.specialIn K (.builtin "object.__class__") "__get__" = some (some (.builtin "getset_descriptor.__get__")))
  (ht:PySem.W.takesIn K (.builtin "object.__class__")=some true)
  (a_row_of:PySem.W.nsIn K mainGlobals "row_of" = some (some (.ref f_row_of)))
  (l_row_of:K.lookup f_row_of=some ⟨oc_row_of,od_row_of,.func (PySem.W.fnOf "row_of" "row_of" (defArgs E1) (defBody E1) (defScope E1) .none kV_row_of dc_row_of pm_row_of an_row_of cd_row_of ct_row_of),sl_row_of⟩)
  (o_row_of:PySem.W.codeIn K cd_row_of "row_of" = true)
  (k_row_of:PySem.W.keepIn K (.ref f_row_of)=true)
  (a_within:PySem.W.nsIn K mainGlobals "within" = some (some (.ref f_within)))
  (l_within:K.lookup f_within=some ⟨oc_within,od_within,.func (PySem.W.fnOf "within" "within" (defArgs EN) (defBody EN) (defScope EN) .none kV_within dc_within pm_within an_within cd_within ct_within),sl_within⟩)
  (o_within:PySem.W.codeIn K cd_within "within" = true)
  (k_within:PySem.W.keepIn K (.ref f_within)=true)
  (a_has_below:PySem.W.nsIn K mainGlobals "has_below" = some (some (.ref f_has_below)))
  (l_has_below:K.lookup f_has_below=some ⟨oc_has_below,od_has_below,.func (PySem.W.fnOf "has_below" "has_below" (defArgs CY) (defBody CY) (defScope CY) .none kV_has_below dc_has_below pm_has_below an_has_below cd_has_below ct_has_below),sl_has_below⟩)
  (o_has_below:PySem.W.codeIn K cd_has_below "has_below" = true)
  (k_has_below:PySem.W.keepIn K (.ref f_has_below)=true)
  (a_lowest:PySem.W.nsIn K mainGlobals "lowest" = some (some (.ref f_lowest)))
  (l_lowest:K.lookup f_lowest=some ⟨oc_lowest,od_lowest,.func (PySem.W.fnOf "lowest" "lowest" (defArgs Ew) (defBody Ew) (defScope Ew) .none kV_lowest dc_lowest pm_lowest an_lowest cd_lowest ct_lowest),sl_lowest⟩)
  (o_lowest:PySem.W.codeIn K cd_lowest "lowest" = true)
  (k_lowest:PySem.W.keepIn K (.ref f_lowest)=true)
  (a_normal:PySem.W.nsIn K mainGlobals "normal" = some (some (.ref f_normal)))
  (l_normal:K.lookup f_normal=some ⟨oc_normal,od_normal,.func (PySem.W.fnOf "normal" "normal" (defArgs En) (defBody En) (defScope En) .none kV_normal dc_normal pm_normal an_normal cd_normal ct_normal),sl_normal⟩)
  (o_normal:PySem.W.codeIn K cd_normal "normal" = true)
  (k_normal:PySem.W.keepIn K (.ref f_normal)=true)
  (a_need_rows:PySem.W.nsIn K mainGlobals "need_rows" = some (some (.ref f_need_rows)))
  (l_need_rows:K.lookup f_need_rows=some ⟨oc_need_rows,od_need_rows,.func (PySem.W.fnOf "need_rows" "need_rows" (defArgs C7) (defBody C7) (defScope C7) .none kV_need_rows dc_need_rows pm_need_rows an_need_rows cd_need_rows ct_need_rows),sl_need_rows⟩)
  (o_need_rows:PySem.W.codeIn K cd_need_rows "need_rows" = true)
  (k_need_rows:PySem.W.keepIn K (.ref f_need_rows)=true)
  (a_need_few:PySem.W.nsIn K mainGlobals "need_few" = some (some (.ref f_need_few)))
  (l_need_few:K.lookup f_need_few=some ⟨oc_need_few,od_need_few,.func (PySem.W.fnOf "need_few" "need_few" (defArgs DF) (defBody DF) (defScope DF) .none kV_need_few dc_need_few pm_need_few an_need_few cd_need_few ct_need_few),sl_need_few⟩)
  (o_need_few:PySem.W.codeIn K cd_need_few "need_few" = true)
  (k_need_few:PySem.W.keepIn K (.ref f_need_few)=true)
  (a_checked_form:PySem.W.nsIn K mainGlobals "checked_form" = some (some (.ref f_checked_form)))
  (l_checked_form:K.lookup f_checked_form=some ⟨oc_checked_form,od_checked_form,.func (PySem.W.fnOf "checked_form" "checked_form" (defArgs BC) (defBody BC) (defScope BC) .none kV_checked_form dc_checked_form pm_checked_form an_checked_form cd_checked_form ct_checked_form),sl_checked_form⟩)
  (o_checked_form:PySem.W.codeIn K cd_checked_form "checked_form" = true)
  (k_checked_form:PySem.W.keepIn K (.ref f_checked_form)=true)
  (a_Map___init__:PySem.W.findIn K (.ref c_Map) "__init__" = some (some (.ref f_Map___init__)))
  (fn_Map___init__:PySem.W.isFn K (.ref f_Map___init__)=true)
  (l_Map___init__:K.lookup f_Map___init__=some ⟨oc_Map___init__,od_Map___init__,.func (PySem.W.fnOf "__init__" "Map.__init__" (defArgs By) (defBody By) (defScope By) .none kV_Map___init__ dc_Map___init__ pm_Map___init__ an_Map___init__ cd_Map___init__ ct_Map___init__),sl_Map___init__⟩)
  (o_Map___init__:PySem.W.codeIn K cd_Map___init__ "Map.__init__" = true)
  (k_Map___init__:PySem.W.keepIn K (.ref f_Map___init__)=true)
  (a_merged:PySem.W.nsIn K mainGlobals "merged" = some (some (.ref f_merged)))
  (l_merged:K.lookup f_merged=some ⟨oc_merged,od_merged,.func (PySem.W.fnOf "merged" "merged" (defArgs EX) (defBody EX) (defScope EX) .none kV_merged dc_merged pm_merged an_merged cd_merged ct_merged),sl_merged⟩)
  (o_merged:PySem.W.codeIn K cd_merged "merged" = true)
  (k_merged:PySem.W.keepIn K (.ref f_merged)=true)
  (a_joined:PySem.W.nsIn K mainGlobals "joined" = some (some (.ref f_joined)))
  (l_joined:K.lookup f_joined=some ⟨oc_joined,od_joined,.func (PySem.W.fnOf "joined" "joined" (defArgs Es) (defBody Es) (defScope Es) .none kV_joined dc_joined pm_joined an_joined cd_joined ct_joined),sl_joined⟩)
  (o_joined:PySem.W.codeIn K cd_joined "joined" = true)
  (k_joined:PySem.W.keepIn K (.ref f_joined)=true)
  (a_map_of:PySem.W.nsIn K mainGlobals "map_of" = some (some (.ref f_map_of)))
  (l_map_of:K.lookup f_map_of=some ⟨oc_map_of,od_map_of,.func (PySem.W.fnOf "map_of" "map_of" (defArgs Ex) (defBody Ex) (defScope Ex) .none kV_map_of dc_map_of pm_map_of an_map_of cd_map_of ct_map_of),sl_map_of⟩)
  (o_map_of:PySem.W.codeIn K cd_map_of "map_of" = true)
  (k_map_of:PySem.W.keepIn K (.ref f_map_of)=true)
  (a_Map_names:PySem.W.findIn K (.ref c_Map) "names" = some (some (.ref f_Map_names)))
  (fn_Map_names:PySem.W.isFn K (.ref f_Map_names)=true)
  (l_Map_names:K.lookup f_Map_names=some ⟨oc_Map_names,od_Map_names,.func (PySem.W.fnOf "names" "Map.names" (defArgs CZ) (defBody CZ) (defScope CZ) .none kV_Map_names dc_Map_names pm_Map_names an_Map_names cd_Map_names ct_Map_names),sl_Map_names⟩)
  (o_Map_names:PySem.W.codeIn K cd_Map_names "Map.names" = true)
  (k_Map_names:PySem.W.keepIn K (.ref f_Map_names)=true)
  (a_Map___contains__:PySem.W.findIn K (.ref c_Map) "__contains__" = some (some (.ref f_Map___contains__)))
  (fn_Map___contains__:PySem.W.isFn K (.ref f_Map___contains__)=true)
  (l_Map___contains__:K.lookup f_Map___contains__=some ⟨oc_Map___contains__,od_Map___contains__,.func (PySem.W.fnOf "__contains__" "Map.__contains__" (defArgs A7) (defBody A7) (defScope A7) .none kV_Map___contains__ dc_Map___contains__ pm_Map___contains__ an_Map___contains__ cd_Map___contains__ ct_Map___contains__),sl_Map___contains__⟩)
  (o_Map___contains__:PySem.W.codeIn K cd_Map___contains__ "Map.__contains__" = true)
  (k_Map___contains__:PySem.W.keepIn K (.ref f_Map___contains__)=true)
  (a_need_alike:PySem.W.nsIn K mainGlobals "need_alike" = some (some (.ref f_need_alike)))
  (l_need_alike:K.lookup f_need_alike=some ⟨oc_need_alike,od_need_alike,.func (PySem.W.fnOf "need_alike" "need_alike" (defArgs BI) (defBody BI) (defScope BI) .none kV_need_alike dc_need_alike pm_need_alike an_need_alike cd_need_alike ct_need_alike),sl_need_alike⟩)
  (o_need_alike:PySem.W.codeIn K cd_need_alike "need_alike" = true)
  (k_need_alike:PySem.W.keepIn K (.ref f_need_alike)=true)
  (a_Map___or__:PySem.W.findIn K (.ref c_Map) "__or__" = some (some (.ref f_Map___or__)))
  (fn_Map___or__:PySem.W.isFn K (.ref f_Map___or__)=true)
  (l_Map___or__:K.lookup f_Map___or__=some ⟨oc_Map___or__,od_Map___or__,.func (PySem.W.fnOf "__or__" "Map.__or__" (defArgs Cr) (defBody Cr) (defScope Cr) .none kV_Map___or__ dc_Map___or__ pm_Map___or__ an_Map___or__ cd_Map___or__ ct_Map___or__),sl_Map___or__⟩)
  (o_Map___or__:PySem.W.codeIn K cd_Map___or__ "Map.__or__" = true)
  (k_Map___or__:PySem.W.keepIn K (.ref f_Map___or__)=true)
  (a_either:PySem.W.nsIn K mainGlobals "either" = some (some (.ref f_either)))
  (l_either:K.lookup f_either=some ⟨oc_either,od_either,.func (PySem.W.fnOf "either" "either" (defArgs E6) (defBody E6) (defScope E6) .none kV_either dc_either pm_either an_either cd_either ct_either),sl_either⟩)
  (o_either:PySem.W.codeIn K cd_either "either" = true)
  (k_either:PySem.W.keepIn K (.ref f_either)=true)
  (a_Map___and__:PySem.W.findIn K (.ref c_Map) "__and__" = some (some (.ref f_Map___and__)))
  (fn_Map___and__:PySem.W.isFn K (.ref f_Map___and__)=true)
  (l_Map___and__:K.lookup f_Map___and__=some ⟨oc_Map___and__,od_Map___and__,.func (PySem.W.fnOf "__and__" "Map.__and__" (defArgs BV) (defBody BV) (defScope BV) .none kV_Map___and__ dc_Map___and__ pm_Map___and__ an_Map___and__ cd_Map___and__ ct_Map___and__),sl_Map___and__⟩)
  (o_Map___and__:PySem.W.codeIn K cd_Map___and__ "Map.__and__" = true)
  (k_Map___and__:PySem.W.keepIn K (.ref f_Map___and__)=true)
  (a_Map_is_below:PySem.W.findIn K (.ref c_Map) "is_below" = some (some (.ref f_Map_is_below)))
  (fn_Map_is_below:PySem.W.isFn K (.ref f_Map_is_below)=true)
  (l_Map_is_below:K.lookup f_Map_is_below=some ⟨oc_Map_is_below,od_Map_is_below,.func (PySem.W.fnOf "is_below" "Map.is_below" (defArgs BA) (defBody BA) (defScope BA) .none kV_Map_is_below dc_Map_is_below pm_Map_is_below an_Map_is_below cd_Map_is_below ct_Map_is_below),sl_Map_is_below⟩)
  (o_Map_is_below:PySem.W.codeIn K cd_Map_is_below "Map.is_below" = true)
  (k_Map_is_below:PySem.W.keepIn K (.ref f_Map_is_below)=true)
  (a__law_box:PySem.W.nsIn K mainGlobals "_law_box" = some (some (.ref f__law_box)))
  (l__law_box:K.lookup f__law_box=some ⟨oc__law_box,od__law_box,.func (PySem.W.fnOf "_law_box" "_law_box" (defArgs DL) (defBody DL) (defScope DL) .none kV__law_box dc__law_box pm__law_box an__law_box cd__law_box ct__law_box),sl__law_box⟩)
  (o__law_box:PySem.W.codeIn K cd__law_box "_law_box" = true)
  (k__law_box:PySem.W.keepIn K (.ref f__law_box)=true)
  (a__law_take:PySem.W.nsIn K mainGlobals "_law_take" = some (some (.ref f__law_take)))
  (l__law_take:K.lookup f__law_take=some ⟨oc__law_take,od__law_take,.func (PySem.W.fnOf "_law_take" "_law_take" (defArgs CS) (defBody CS) (defScope CS) .none kV__law_take dc__law_take pm__law_take an__law_take cd__law_take ct__law_take),sl__law_take⟩)
  (o__law_take:PySem.W.codeIn K cd__law_take "_law_take" = true)
  (k__law_take:PySem.W.keepIn K (.ref f__law_take)=true)
  (a__law_fresh:PySem.W.nsIn K mainGlobals "_law_fresh" = some (some (.ref f__law_fresh)))
  (l__law_fresh:K.lookup f__law_fresh=some ⟨oc__law_fresh,od__law_fresh,.func (PySem.W.fnOf "_law_fresh" "_law_fresh" (defArgs Cj) (defBody Cj) (defScope Cj) .none kV__law_fresh dc__law_fresh pm__law_fresh an__law_fresh cd__law_fresh ct__law_fresh),sl__law_fresh⟩)
  (o__law_fresh:PySem.W.codeIn K cd__law_fresh "_law_fresh" = true)
  (k__law_fresh:PySem.W.keepIn K (.ref f__law_fresh)=true)
  (a__law_word:PySem.W.nsIn K mainGlobals "_law_word" = some (some (.ref f__law_word)))
  (l__law_word:K.lookup f__law_word=some ⟨oc__law_word,od__law_word,.func (PySem.W.fnOf "_law_word" "_law_word" (defArgs C6) (defBody C6) (defScope C6) .none kV__law_word dc__law_word pm__law_word an__law_word cd__law_word ct__law_word),sl__law_word⟩)
  (o__law_word:PySem.W.codeIn K cd__law_word "_law_word" = true)
  (k__law_word:PySem.W.keepIn K (.ref f__law_word)=true)
  (a__law_names:PySem.W.nsIn K mainGlobals "_law_names" = some (some (.ref f__law_names)))
  (l__law_names:K.lookup f__law_names=some ⟨oc__law_names,od__law_names,.func (PySem.W.fnOf "_law_names" "_law_names" (defArgs Cm) (defBody Cm) (defScope Cm) .none kV__law_names dc__law_names pm__law_names an__law_names cd__law_names ct__law_names),sl__law_names⟩)
  (o__law_names:PySem.W.codeIn K cd__law_names "_law_names" = true)
  (k__law_names:PySem.W.keepIn K (.ref f__law_names)=true)
  (a__law_spread:PySem.W.nsIn K mainGlobals "_law_spread" = some (some (.ref f__law_spread)))
  (l__law_spread:K.lookup f__law_spread=some ⟨oc__law_spread,od__law_spread,.func (PySem.W.fnOf "_law_spread" "_law_spread" (defArgs BU) (defBody BU) (defScope BU) .none kV__law_spread dc__law_spread pm__law_spread an__law_spread cd__law_spread ct__law_spread),sl__law_spread⟩)
  (o__law_spread:PySem.W.codeIn K cd__law_spread "_law_spread" = true)
  (k__law_spread:PySem.W.keepIn K (.ref f__law_spread)=true)
  (a__law_row:PySem.W.nsIn K mainGlobals "_law_row" = some (some (.ref f__law_row)))
  (l__law_row:K.lookup f__law_row=some ⟨oc__law_row,od__law_row,.func (PySem.W.fnOf "_law_row" "_law_row" (defArgs DG) (defBody DG) (defScope DG) .none kV__law_row dc__law_row pm__law_row an__law_row cd__law_row ct__law_row),sl__law_row⟩)
  (o__law_row:PySem.W.codeIn K cd__law_row "_law_row" = true)
  (k__law_row:PySem.W.keepIn K (.ref f__law_row)=true)
  (a__law_rules:PySem.W.nsIn K mainGlobals "_law_rules" = some (some (.ref f__law_rules)))
  (l__law_rules:K.lookup f__law_rules=some ⟨oc__law_rules,od__law_rules,.func (PySem.W.fnOf "_law_rules" "_law_rules" (defArgs Cd) (defBody Cd) (defScope Cd) .none kV__law_rules dc__law_rules pm__law_rules an__law_rules cd__law_rules ct__law_rules),sl__law_rules⟩)
  (o__law_rules:PySem.W.codeIn K cd__law_rules "_law_rules" = true)
  (k__law_rules:PySem.W.keepIn K (.ref f__law_rules)=true)
  (a__law_copy:PySem.W.nsIn K mainGlobals "_law_copy" = some (some (.ref f__law_copy)))
  (l__law_copy:K.lookup f__law_copy=some ⟨oc__law_copy,od__law_copy,.func (PySem.W.fnOf "_law_copy" "_law_copy" (defArgs Cv) (defBody Cv) (defScope Cv) .none kV__law_copy dc__law_copy pm__law_copy an__law_copy cd__law_copy ct__law_copy),sl__law_copy⟩)
  (o__law_copy:PySem.W.codeIn K cd__law_copy "_law_copy" = true)
  (k__law_copy:PySem.W.keepIn K (.ref f__law_copy)=true)
  (a_Map_form:PySem.W.findIn K (.ref c_Map) "form" = some (some (.ref f_Map_form)))
  (fn_Map_form:PySem.W.isFn K (.ref f_Map_form)=true)
  (l_Map_form:K.lookup f_Map_form=some ⟨oc_Map_form,od_Map_form,.func (PySem.W.fnOf "form" "Map.form" (defArgs DK) (defBody DK) (defScope DK) .none kV_Map_form dc_Map_form pm_Map_form an_Map_form cd_Map_form ct_Map_form),sl_Map_form⟩)
  (o_Map_form:PySem.W.codeIn K cd_Map_form "Map.form" = true)
  (k_Map_form:PySem.W.keepIn K (.ref f_Map_form)=true)
  (a_Map___len__:PySem.W.findIn K (.ref c_Map) "__len__" = some (some (.ref f_Map___len__)))
  (fn_Map___len__:PySem.W.isFn K (.ref f_Map___len__)=true)
  (l_Map___len__:K.lookup f_Map___len__=some ⟨oc_Map___len__,od_Map___len__,.func (PySem.W.fnOf "__len__" "Map.__len__" (defArgs BQ) (defBody BQ) (defScope BQ) .none kV_Map___len__ dc_Map___len__ pm_Map___len__ an_Map___len__ cd_Map___len__ ct_Map___len__),sl_Map___len__⟩)
  (o_Map___len__:PySem.W.codeIn K cd_Map___len__ "Map.__len__" = true)
  (k_Map___len__:PySem.W.keepIn K (.ref f_Map___len__)=true)
  (a__law_below:PySem.W.nsIn K mainGlobals "_law_below" = some (some (.ref f__law_below)))
  (l__law_below:K.lookup f__law_below=some ⟨oc__law_below,od__law_below,.func (PySem.W.fnOf "_law_below" "_law_below" (defArgs Cp) (defBody Cp) (defScope Cp) .none kV__law_below dc__law_below pm__law_below an__law_below cd__law_below ct__law_below),sl__law_below⟩)
  (o__law_below:PySem.W.codeIn K cd__law_below "_law_below" = true)
  (k__law_below:PySem.W.keepIn K (.ref f__law_below)=true)
  (a__law_flat:PySem.W.nsIn K mainGlobals "_law_flat" = some (some (.ref f__law_flat)))
  (l__law_flat:K.lookup f__law_flat=some ⟨oc__law_flat,od__law_flat,.func (PySem.W.fnOf "_law_flat" "_law_flat" (defArgs C0) (defBody C0) (defScope C0) .none kV__law_flat dc__law_flat pm__law_flat an__law_flat cd__law_flat ct__law_flat),sl__law_flat⟩)
  (o__law_flat:PySem.W.codeIn K cd__law_flat "_law_flat" = true)
  (k__law_flat:PySem.W.keepIn K (.ref f__law_flat)=true)
  (a__law_integer:PySem.W.nsIn K mainGlobals "_law_integer" = some (some (.ref f__law_integer)))
  (l__law_integer:K.lookup f__law_integer=some ⟨oc__law_integer,od__law_integer,.func (PySem.W.fnOf "_law_integer" "_law_integer" (defArgs BD) (defBody BD) (defScope BD) .none kV__law_integer dc__law_integer pm__law_integer an__law_integer cd__law_integer ct__law_integer),sl__law_integer⟩)
  (o__law_integer:PySem.W.codeIn K cd__law_integer "_law_integer" = true)
  (k__law_integer:PySem.W.keepIn K (.ref f__law_integer)=true)
  (a__law_form:PySem.W.nsIn K mainGlobals "_law_form" = some (some (.ref f__law_form)))
  (l__law_form:K.lookup f__law_form=some ⟨oc__law_form,od__law_form,.func (PySem.W.fnOf "_law_form" "_law_form" (defArgs C5) (defBody C5) (defScope C5) .none kV__law_form dc__law_form pm__law_form an__law_form cd__law_form ct__law_form),sl__law_form⟩)
  (o__law_form:PySem.W.codeIn K cd__law_form "_law_form" = true)
  (k__law_form:PySem.W.keepIn K (.ref f__law_form)=true)
  (a__law_normal:PySem.W.nsIn K mainGlobals "_law_normal" = some (some (.ref f__law_normal)))
  (l__law_normal:K.lookup f__law_normal=some ⟨oc__law_normal,od__law_normal,.func (PySem.W.fnOf "_law_normal" "_law_normal" (defArgs Bu) (defBody Bu) (defScope Bu) .none kV__law_normal dc__law_normal pm__law_normal an__law_normal cd__law_normal ct__law_normal),sl__law_normal⟩)
  (o__law_normal:PySem.W.codeIn K cd__law_normal "_law_normal" = true)
  (k__law_normal:PySem.W.keepIn K (.ref f__law_normal)=true)
  (a__law_right:PySem.W.nsIn K mainGlobals "_law_right" = some (some (.ref f__law_right)))
  (l__law_right:K.lookup f__law_right=some ⟨oc__law_right,od__law_right,.func (PySem.W.fnOf "_law_right" "_law_right" (defArgs Ck) (defBody Ck) (defScope Ck) .none kV__law_right dc__law_right pm__law_right an__law_right cd__law_right ct__law_right),sl__law_right⟩)
  (o__law_right:PySem.W.codeIn K cd__law_right "_law_right" = true)
  (k__law_right:PySem.W.keepIn K (.ref f__law_right)=true)
  (a__law_raised:PySem.W.nsIn K mainGlobals "_law_raised" = some (some (.ref f__law_raised)))
  (l__law_raised:K.lookup f__law_raised=some ⟨oc__law_raised,od__law_raised,.func (PySem.W.fnOf "_law_raised" "_law_raised" (defArgs BW) (defBody BW) (defScope BW) .none kV__law_raised dc__law_raised pm__law_raised an__law_raised cd__law_raised ct__law_raised),sl__law_raised⟩)
  (o__law_raised:PySem.W.codeIn K cd__law_raised "_law_raised" = true)
  (k__law_raised:PySem.W.keepIn K (.ref f__law_raised)=true)
  (a_value_of:PySem.W.nsIn K mainGlobals "value_of" = some (some (.ref f_value_of)))
  (l_value_of:K.lookup f_value_of=some ⟨oc_value_of,od_value_of,.func (PySem.W.fnOf "value_of" "value_of" (defArgs Dh) (defBody Dh) (defScope Dh) .none kV_value_of dc_value_of pm_value_of an_value_of cd_value_of ct_value_of),sl_value_of⟩)
  (o_value_of:PySem.W.codeIn K cd_value_of "value_of" = true)
  (k_value_of:PySem.W.keepIn K (.ref f_value_of)=true)
  (a_Map___call__:PySem.W.findIn K (.ref c_Map) "__call__" = some (some (.ref f_Map___call__)))
  (fn_Map___call__:PySem.W.isFn K (.ref f_Map___call__)=true)
  (l_Map___call__:K.lookup f_Map___call__=some ⟨oc_Map___call__,od_Map___call__,.func (PySem.W.fnOf "__call__" "Map.__call__" (defArgs Bo) (defBody Bo) (defScope Bo) .none kV_Map___call__ dc_Map___call__ pm_Map___call__ an_Map___call__ cd_Map___call__ ct_Map___call__),sl_Map___call__⟩)
  (o_Map___call__:PySem.W.codeIn K cd_Map___call__ "Map.__call__" = true)
  (k_Map___call__:PySem.W.keepIn K (.ref f_Map___call__)=true)
  (a_Map___eq__:PySem.W.findIn K (.ref c_Map) "__eq__" = some (some (.ref f_Map___eq__)))
  (fn_Map___eq__:PySem.W.isFn K (.ref f_Map___eq__)=true)
  (l_Map___eq__:K.lookup f_Map___eq__=some ⟨oc_Map___eq__,od_Map___eq__,.func (PySem.W.fnOf "__eq__" "Map.__eq__" (defArgs Cq) (defBody Cq) (defScope Cq) .none kV_Map___eq__ dc_Map___eq__ pm_Map___eq__ an_Map___eq__ cd_Map___eq__ ct_Map___eq__),sl_Map___eq__⟩)
  (o_Map___eq__:PySem.W.codeIn K cd_Map___eq__ "Map.__eq__" = true)
  (k_Map___eq__:PySem.W.keepIn K (.ref f_Map___eq__)=true)
  (a__law_lacking:PySem.W.nsIn K mainGlobals "_law_lacking" = some (some (.ref f__law_lacking)))
  (l__law_lacking:K.lookup f__law_lacking=some ⟨oc__law_lacking,od__law_lacking,.func (PySem.W.fnOf "_law_lacking" "_law_lacking" (defArgs Bt) (defBody Bt) (defScope Bt) .none kV__law_lacking dc__law_lacking pm__law_lacking an__law_lacking cd__law_lacking ct__law_lacking),sl__law_lacking⟩)
  (o__law_lacking:PySem.W.codeIn K cd__law_lacking "_law_lacking" = true)
  (k__law_lacking:PySem.W.keepIn K (.ref f__law_lacking)=true)
  (a__law_far:PySem.W.nsIn K mainGlobals "_law_far" = some (some (.ref f__law_far)))
  (l__law_far:K.lookup f__law_far=some ⟨oc__law_far,od__law_far,.func (PySem.W.fnOf "_law_far" "_law_far" (defArgs Dk) (defBody Dk) (defScope Dk) .none kV__law_far dc__law_far pm__law_far an__law_far cd__law_far ct__law_far),sl__law_far⟩)
  (o__law_far:PySem.W.codeIn K cd__law_far "_law_far" = true)
  (k__law_far:PySem.W.keepIn K (.ref f__law_far)=true)
  (a__law_truth:PySem.W.nsIn K mainGlobals "_law_truth" = some (some (.ref f__law_truth)))
  (l__law_truth:K.lookup f__law_truth=some ⟨oc__law_truth,od__law_truth,.func (PySem.W.fnOf "_law_truth" "_law_truth" (defArgs Ce) (defBody Ce) (defScope Ce) .none kV__law_truth dc__law_truth pm__law_truth an__law_truth cd__law_truth ct__law_truth),sl__law_truth⟩)
  (o__law_truth:PySem.W.codeIn K cd__law_truth "_law_truth" = true)
  (k__law_truth:PySem.W.keepIn K (.ref f__law_truth)=true)
  (a__law_order:PySem.W.nsIn K mainGlobals "_law_order" = some (some (.ref f__law_order)))
  (l__law_order:K.lookup f__law_order=some ⟨oc__law_order,od__law_order,.func (PySem.W.fnOf "_law_order" "_law_order" (defArgs Cn) (defBody Cn) (defScope Cn) .none kV__law_order dc__law_order pm__law_order an__law_order cd__law_order ct__law_order),sl__law_order⟩)
  (o__law_order:PySem.W.codeIn K cd__law_order "_law_order" = true)
  (k__law_order:PySem.W.keepIn K (.ref f__law_order)=true)
  (a__law_value:PySem.W.nsIn K mainGlobals "_law_value" = some (some (.ref f__law_value)))
  (l__law_value:K.lookup f__law_value=some ⟨oc__law_value,od__law_value,.func (PySem.W.fnOf "_law_value" "_law_value" (defArgs B0) (defBody B0) (defScope B0) .none kV__law_value dc__law_value pm__law_value an__law_value cd__law_value ct__law_value),sl__law_value⟩)
  (o__law_value:PySem.W.codeIn K cd__law_value "_law_value" = true)
  (k__law_value:PySem.W.keepIn K (.ref f__law_value)=true)
  (a__law_gives:PySem.W.nsIn K mainGlobals "_law_gives" = some (some (.ref f__law_gives)))
  (l__law_gives:K.lookup f__law_gives=some ⟨oc__law_gives,od__law_gives,.func (PySem.W.fnOf "_law_gives" "_law_gives" (defArgs B4) (defBody B4) (defScope B4) .none kV__law_gives dc__law_gives pm__law_gives an__law_gives cd__law_gives ct__law_gives),sl__law_gives⟩)
  (o__law_gives:PySem.W.codeIn K cd__law_gives "_law_gives" = true)
  (k__law_gives:PySem.W.keepIn K (.ref f__law_gives)=true)
  (a__law_drawn_point:PySem.W.nsIn K mainGlobals "_law_drawn_point" = some (some (.ref f__law_drawn_point)))
  (l__law_drawn_point:K.lookup f__law_drawn_point=some ⟨oc__law_drawn_point,od__law_drawn_point,.func (PySem.W.fnOf "_law_drawn_point" "_law_drawn_point" (defArgs A6) (defBody A6) (defScope A6) .none kV__law_drawn_point dc__law_drawn_point pm__law_drawn_point an__law_drawn_point cd__law_drawn_point ct__law_drawn_point),sl__law_drawn_point⟩)
  (o__law_drawn_point:PySem.W.codeIn K cd__law_drawn_point "_law_drawn_point" = true)
  (k__law_drawn_point:PySem.W.keepIn K (.ref f__law_drawn_point)=true)
  (a__law_either:PySem.W.nsIn K mainGlobals "_law_either" = some (some (.ref f__law_either)))
  (l__law_either:K.lookup f__law_either=some ⟨oc__law_either,od__law_either,.func (PySem.W.fnOf "_law_either" "_law_either" (defArgs BB) (defBody BB) (defScope BB) .none kV__law_either dc__law_either pm__law_either an__law_either cd__law_either ct__law_either),sl__law_either⟩)
  (o__law_either:PySem.W.codeIn K cd__law_either "_law_either" = true)
  (k__law_either:PySem.W.keepIn K (.ref f__law_either)=true)
  (a__law_joined:PySem.W.nsIn K mainGlobals "_law_joined" = some (some (.ref f__law_joined)))
  (l__law_joined:K.lookup f__law_joined=some ⟨oc__law_joined,od__law_joined,.func (PySem.W.fnOf "_law_joined" "_law_joined" (defArgs BS) (defBody BS) (defScope BS) .none kV__law_joined dc__law_joined pm__law_joined an__law_joined cd__law_joined ct__law_joined),sl__law_joined⟩)
  (o__law_joined:PySem.W.codeIn K cd__law_joined "_law_joined" = true)
  (k__law_joined:PySem.W.keepIn K (.ref f__law_joined)=true)
  (a__law_both:PySem.W.nsIn K mainGlobals "_law_both" = some (some (.ref f__law_both)))
  (l__law_both:K.lookup f__law_both=some ⟨oc__law_both,od__law_both,.func (PySem.W.fnOf "_law_both" "_law_both" (defArgs Cz) (defBody Cz) (defScope Cz) .none kV__law_both dc__law_both pm__law_both an__law_both cd__law_both ct__law_both),sl__law_both⟩)
  (o__law_both:PySem.W.codeIn K cd__law_both "_law_both" = true)
  (k__law_both:PySem.W.keepIn K (.ref f__law_both)=true)
  (a__law_pointwise:PySem.W.nsIn K mainGlobals "_law_pointwise" = some (some (.ref f__law_pointwise)))
  (l__law_pointwise:K.lookup f__law_pointwise=some ⟨oc__law_pointwise,od__law_pointwise,.func (PySem.W.fnOf "_law_pointwise" "_law_pointwise" (defArgs Bi) (defBody Bi) (defScope Bi) .none kV__law_pointwise dc__law_pointwise pm__law_pointwise an__law_pointwise cd__law_pointwise ct__law_pointwise),sl__law_pointwise⟩)
  (o__law_pointwise:PySem.W.codeIn K cd__law_pointwise "_law_pointwise" = true)
  (k__law_pointwise:PySem.W.keepIn K (.ref f__law_pointwise)=true)
  (a__law_lattice:PySem.W.nsIn K mainGlobals "_law_lattice" = some (some (.ref f__law_lattice)))
  (l__law_lattice:K.lookup f__law_lattice=some ⟨oc__law_lattice,od__law_lattice,.func (PySem.W.fnOf "_law_lattice" "_law_lattice" (defArgs BE) (defBody BE) (defScope BE) .none kV__law_lattice dc__law_lattice pm__law_lattice an__law_lattice cd__law_lattice ct__law_lattice),sl__law_lattice⟩)
  (o__law_lattice:PySem.W.codeIn K cd__law_lattice "_law_lattice" = true)
  (k__law_lattice:PySem.W.keepIn K (.ref f__law_lattice)=true)
  (a_shifted:PySem.W.nsIn K mainGlobals "shifted" = some (some (.ref f_shifted)))
  (l_shifted:K.lookup f_shifted=some ⟨oc_shifted,od_shifted,.func (PySem.W.fnOf "shifted" "shifted" (defArgs DP) (defBody DP) (defScope DP) .none kV_shifted dc_shifted pm_shifted an_shifted cd_shifted ct_shifted),sl_shifted⟩)
  (o_shifted:PySem.W.codeIn K cd_shifted "shifted" = true)
  (k_shifted:PySem.W.keepIn K (.ref f_shifted)=true)
  (a_placed_row:PySem.W.nsIn K mainGlobals "placed_row" = some (some (.ref f_placed_row)))
  (l_placed_row:K.lookup f_placed_row=some ⟨oc_placed_row,od_placed_row,.func (PySem.W.fnOf "placed_row" "placed_row" (defArgs Co) (defBody Co) (defScope Co) .none kV_placed_row dc_placed_row pm_placed_row an_placed_row cd_placed_row ct_placed_row),sl_placed_row⟩)
  (o_placed_row:PySem.W.codeIn K cd_placed_row "placed_row" = true)
  (k_placed_row:PySem.W.keepIn K (.ref f_placed_row)=true)
  (a_placed:PySem.W.nsIn K mainGlobals "placed" = some (some (.ref f_placed)))
  (l_placed:K.lookup f_placed=some ⟨oc_placed,od_placed,.func (PySem.W.fnOf "placed" "placed" (defArgs E5) (defBody E5) (defScope E5) .none kV_placed dc_placed pm_placed an_placed cd_placed ct_placed),sl_placed⟩)
  (o_placed:PySem.W.codeIn K cd_placed "placed" = true)
  (k_placed:PySem.W.keepIn K (.ref f_placed)=true)
  (a_composed:PySem.W.nsIn K mainGlobals "composed" = some (some (.ref f_composed)))
  (l_composed:K.lookup f_composed=some ⟨oc_composed,od_composed,.func (PySem.W.fnOf "composed" "composed" (defArgs DC) (defBody DC) (defScope DC) .none kV_composed dc_composed pm_composed an_composed cd_composed ct_composed),sl_composed⟩)
  (o_composed:PySem.W.codeIn K cd_composed "composed" = true)
  (k_composed:PySem.W.keepIn K (.ref f_composed)=true)
  (a_Map___mul__:PySem.W.findIn K (.ref c_Map) "__mul__" = some (some (.ref f_Map___mul__)))
  (fn_Map___mul__:PySem.W.isFn K (.ref f_Map___mul__)=true)
  (l_Map___mul__:K.lookup f_Map___mul__=some ⟨oc_Map___mul__,od_Map___mul__,.func (PySem.W.fnOf "__mul__" "Map.__mul__" (defArgs BP) (defBody BP) (defScope BP) .none kV_Map___mul__ dc_Map___mul__ pm_Map___mul__ an_Map___mul__ cd_Map___mul__ ct_Map___mul__),sl_Map___mul__⟩)
  (o_Map___mul__:PySem.W.codeIn K cd_Map___mul__ "Map.__mul__" = true)
  (k_Map___mul__:PySem.W.keepIn K (.ref f_Map___mul__)=true)
  (a__law_on_the_right:PySem.W.nsIn K mainGlobals "_law_on_the_right" = some (some (.ref f__law_on_the_right)))
  (l__law_on_the_right:K.lookup f__law_on_the_right=some ⟨oc__law_on_the_right,od__law_on_the_right,.func (PySem.W.fnOf "_law_on_the_right" "_law_on_the_right" (defArgs A2) (defBody A2) (defScope A2) .none kV__law_on_the_right dc__law_on_the_right pm__law_on_the_right an__law_on_the_right cd__law_on_the_right ct__law_on_the_right),sl__law_on_the_right⟩)
  (o__law_on_the_right:PySem.W.codeIn K cd__law_on_the_right "_law_on_the_right" = true)
  (k__law_on_the_right:PySem.W.keepIn K (.ref f__law_on_the_right)=true)
  (a_law:PySem.W.nsIn K mainGlobals "law" = some (some (.ref f_law)))
  (l_law:K.lookup f_law=some ⟨oc_law,od_law,.func (PySem.W.fnOf "law" "law" (defArgs Fu) (defBody Fu) (defScope Fu) .none kV_law dc_law pm_law an_law cd_law ct_law),sl_law⟩)
  (o_law:PySem.W.codeIn K cd_law "law" = true)
  (k_law:PySem.W.keepIn K (.ref f_law)=true)
  (hmain:∀ (base:Heap) (cs:Cs) (fa:Addr) (fd:FuncData),Tx PySem.Challenge.pw_bidehall_k16_greater_and_lesser_maps w K mg base cs→FunD K "law" "law" (defArgs Fu) (defBody Fu) (defScope Fu) [] [] fa fd→FnOk PySem.Challenge.pw_bidehall_k16_greater_and_lesser_maps w K mg base (L2N.CX PySem.Challenge.pw_bidehall_k16_greater_and_lesser_maps w) 11 fa fd ["_law_script"] (Sr K)):
  ∃ fd:FuncData,(∀ (s:Shared) (v:Value),BindsTo s fd ⟨[v],[]⟩ [("_law_script",v)])∧∀ base:Heap,K.In base→base.Ns mainGlobals mg→FnOk PySem.Challenge.pw_bidehall_k16_greater_and_lesser_maps w K mg base (L2N.CX PySem.Challenge.pw_bidehall_k16_greater_and_lesser_maps w) 11 fa fd ["_law_script"] (Sr K):=by
 have e:=hfa.symm.trans (PySem.W.mg_of X G a_law)
 cases e
 have TT:∀ base,Tx PySem.Challenge.pw_bidehall_k16_greater_and_lesser_maps w K mg base ⟨c_Map⟩:=fun base=>
  {n_abs:=PySem.W.mg_none_of X G z_abs,
   n_all:=PySem.W.mg_none_of X G z_all,
   n_any:=PySem.W.mg_none_of X G z_any,
   n_bool:=PySem.W.mg_none_of X G z_bool,
   n_dict:=PySem.W.mg_none_of X G z_dict,
   n_int:=PySem.W.mg_none_of X G z_int,
   n_isinstance:=PySem.W.mg_none_of X G z_isinstance,
   n_len:=PySem.W.mg_none_of X G z_len,
   n_list:=PySem.W.mg_none_of X G z_list,
   n_max:=PySem.W.mg_none_of X G z_max,
   n_min:=PySem.W.mg_none_of X G z_min,
   n_range:=PySem.W.mg_none_of X G z_range,
   n_sorted:=PySem.W.mg_none_of X G z_sorted,
   n_str:=PySem.W.mg_none_of X G z_str,
   n_sum:=PySem.W.mg_none_of X G z_sum,
   n_tuple:=PySem.W.mg_none_of X G z_tuple,
   v_MOST_ROWS:=⟨_,PySem.W.mg_of X G kv_MOST_ROWS,⟨_,rfl⟩⟩,
   g_Map:=PySem.W.mg_of X G a_Map,
   cl_Map:=⟨pg_Map,hdd_Map,po_Map,sat_Map⟩,
   no_Map__forms:=noa_Map__forms,
   sf_Map:=sfq_Map,
   in_Map:=⟨⟨pg_Map,hdd_Map,po_Map,sat_Map⟩,hac_Map,hn,ht,hoc_Map,UP⟩,
   ki_Map_Map:=UP,
   oi_Map:=ai cio_Map cto_Map,
   F_row_of:=⟨f_row_of,_,⟨⟨_,_,_,_,_,_,_,_,_,_,rfl,l_row_of,o_row_of,.inl ⟨rfl,rfl⟩,.inl rfl⟩,k_row_of⟩,PySem.W.mg_of X G a_row_of⟩,
   F_within:=⟨f_within,_,⟨⟨_,_,_,_,_,_,_,_,_,_,rfl,l_within,o_within,.inl ⟨rfl,rfl⟩,.inl rfl⟩,k_within⟩,PySem.W.mg_of X G a_within⟩,
   F_has_below:=⟨f_has_below,_,⟨⟨_,_,_,_,_,_,_,_,_,_,rfl,l_has_below,o_has_below,.inl ⟨rfl,rfl⟩,.inl rfl⟩,k_has_below⟩,PySem.W.mg_of X G a_has_below⟩,
   F_lowest:=⟨f_lowest,_,⟨⟨_,_,_,_,_,_,_,_,_,_,rfl,l_lowest,o_lowest,.inl ⟨rfl,rfl⟩,.inl rfl⟩,k_lowest⟩,PySem.W.mg_of X G a_lowest⟩,
   F_normal:=⟨f_normal,_,⟨⟨_,_,_,_,_,_,_,_,_,_,rfl,l_normal,o_normal,.inl ⟨rfl,rfl⟩,.inl rfl⟩,k_normal⟩,PySem.W.mg_of X G a_normal⟩,
   F_need_rows:=⟨f_need_rows,_,⟨⟨_,_,_,_,_,_,_,_,_,_,rfl,l_need_rows,o_need_rows,.inl ⟨rfl,rfl⟩,.inl rfl⟩,k_need_rows⟩,PySem.W.mg_of X G a_need_rows⟩,
   F_need_few:=⟨f_need_few,_,⟨⟨_,_,_,_,_,_,_,_,_,_,rfl,l_need_few,o_need_few,.inl ⟨rfl,rfl⟩,.inl rfl⟩,k_need_few⟩,PySem.W.mg_of X G a_need_few⟩,
   F_checked_form:=⟨f_checked_form,_,⟨⟨_,_,_,_,_,_,_,_,_,_,rfl,l_checked_form,o_checked_form,.inl ⟨rfl,rfl⟩,.inl rfl⟩,k_checked_form⟩,PySem.W.mg_of X G a_checked_form⟩,
   F_Map___init__:=⟨f_Map___init__,_,⟨⟨_,_,_,_,_,_,_,_,_,_,rfl,l_Map___init__,o_Map___init__,.inl ⟨rfl,rfl⟩,.inl rfl⟩,k_Map___init__⟩,⟨mi_Map,a_Map___init__,fn_Map___init__,kpc_Map⟩⟩,
   F_merged:=⟨f_merged,_,⟨⟨_,_,_,_,_,_,_,_,_,_,rfl,l_merged,o_merged,.inl ⟨rfl,rfl⟩,.inl rfl⟩,k_merged⟩,PySem.W.mg_of X G a_merged⟩,
   F_joined:=⟨f_joined,_,⟨⟨_,_,_,_,_,_,_,_,_,_,rfl,l_joined,o_joined,.inl ⟨rfl,rfl⟩,.inl rfl⟩,k_joined⟩,PySem.W.mg_of X G a_joined⟩,
   F_map_of:=⟨f_map_of,_,⟨⟨_,_,_,_,_,_,_,_,_,_,rfl,l_map_of,o_map_of,.inl ⟨rfl,rfl⟩,.inl rfl⟩,k_map_of⟩,PySem.W.mg_of X G a_map_of⟩,
   F_Map_names:=⟨f_Map_names,_,⟨⟨_,_,_,_,_,_,_,_,_,_,rfl,l_Map_names,o_Map_names,.inl ⟨rfl,rfl⟩,.inl rfl⟩,k_Map_names⟩,⟨a_Map_names,fn_Map_names,k_Map_names⟩⟩,
   F_Map___contains__:=⟨f_Map___contains__,_,⟨⟨_,_,_,_,_,_,_,_,_,_,rfl,l_Map___contains__,o_Map___contains__,.inl ⟨rfl,rfl⟩,.inl rfl⟩,k_Map___contains__⟩,⟨a_Map___contains__,fn_Map___contains__,k_Map___contains__⟩⟩,
   F_need_alike:=⟨f_need_alike,_,⟨⟨_,_,_,_,_,_,_,_,_,_,rfl,l_need_alike,o_need_alike,.inl ⟨rfl,rfl⟩,.inl rfl⟩,k_need_alike⟩,PySem.W.mg_of X G a_need_alike⟩,
   F_Map___or__:=⟨f_Map___or__,_,⟨⟨_,_,_,_,_,_,_,_,_,_,rfl,l_Map___or__,o_Map___or__,.inl ⟨rfl,rfl⟩,.inl rfl⟩,k_Map___or__⟩,⟨a_Map___or__,fn_Map___or__,k_Map___or__⟩⟩,
   F_either:=⟨f_either,_,⟨⟨_,_,_,_,_,_,_,_,_,_,rfl,l_either,o_either,.inl ⟨rfl,rfl⟩,.inl rfl⟩,k_either⟩,PySem.W.mg_of X G a_either⟩,
   F_Map___and__:=⟨f_Map___and__,_,⟨⟨_,_,_,_,_,_,_,_,_,_,rfl,l_Map___and__,o_Map___and__,.inl ⟨rfl,rfl⟩,.inl rfl⟩,k_Map___and__⟩,⟨a_Map___and__,fn_Map___and__,k_Map___and__⟩⟩,
   F_Map_is_below:=⟨f_Map_is_below,_,⟨⟨_,_,_,_,_,_,_,_,_,_,rfl,l_Map_is_below,o_Map_is_below,.inl ⟨rfl,rfl⟩,.inl rfl⟩,k_Map_is_below⟩,⟨a_Map_is_below,fn_Map_is_below,k_Map_is_below⟩⟩,
   F__law_box:=⟨f__law_box,_,⟨⟨_,_,_,_,_,_,_,_,_,_,rfl,l__law_box,o__law_box,.inl ⟨rfl,rfl⟩,.inl rfl⟩,k__law_box⟩,PySem.W.mg_of X G a__law_box⟩,
   F__law_take:=⟨f__law_take,_,⟨⟨_,_,_,_,_,_,_,_,_,_,rfl,l__law_take,o__law_take,.inl ⟨rfl,rfl⟩,.inl rfl⟩,k__law_take⟩,PySem.W.mg_of X G a__law_take⟩,
   F__law_fresh:=⟨f__law_fresh,_,⟨⟨_,_,_,_,_,_,_,_,_,_,rfl,l__law_fresh,o__law_fresh,.inl ⟨rfl,rfl⟩,.inl rfl⟩,k__law_fresh⟩,PySem.W.mg_of X G a__law_fresh⟩,
   F__law_word:=⟨f__law_word,_,⟨⟨_,_,_,_,_,_,_,_,_,_,rfl,l__law_word,o__law_word,.inl ⟨rfl,rfl⟩,.inl rfl⟩,k__law_word⟩,PySem.W.mg_of X G a__law_word⟩,
   F__law_names:=⟨f__law_names,_,⟨⟨_,_,_,_,_,_,_,_,_,_,rfl,l__law_names,o__law_names,.inl ⟨rfl,rfl⟩,.inl rfl⟩,k__law_names⟩,PySem.W.mg_of X G a__law_names⟩,
   F__law_spread:=⟨f__law_spread,_,⟨⟨_,_,_,_,_,_,_,_,_,_,rfl,l__law_spread,o__law_spread,.inl ⟨rfl,rfl⟩,.inl rfl⟩,k__law_spread⟩,PySem.W.mg_of X G a__law_spread⟩,
   F__law_row:=⟨f__law_row,_,⟨⟨_,_,_,_,_,_,_,_,_,_,rfl,l__law_row,o__law_row,.inl ⟨rfl,rfl⟩,.inl rfl⟩,k__law_row⟩,PySem.W.mg_of X G a__law_row⟩,
   F__law_rules:=⟨f__law_rules,_,⟨⟨_,_,_,_,_,_,_,_,_,_,rfl,l__law_rules,o__law_rules,.inl ⟨rfl,rfl⟩,.inl rfl⟩,k__law_rules⟩,PySem.W.mg_of X G a__law_rules⟩,
   F__law_copy:=⟨f__law_copy,_,⟨⟨_,_,_,_,_,_,_,_,_,_,rfl,l__law_copy,o__law_copy,.inl ⟨rfl,rfl⟩,.inl rfl⟩,k__law_copy⟩,PySem.W.mg_of X G a__law_copy⟩,
   F_Map_form:=⟨f_Map_form,_,⟨⟨_,_,_,_,_,_,_,_,_,_,rfl,l_Map_form,o_Map_form,.inl ⟨rfl,rfl⟩,.inl rfl⟩,k_Map_form⟩,⟨a_Map_form,fn_Map_form,k_Map_form⟩⟩,
   F_Map___len__:=⟨f_Map___len__,_,⟨⟨_,_,_,_,_,_,_,_,_,_,rfl,l_Map___len__,o_Map___len__,.inl ⟨rfl,rfl⟩,.inl rfl⟩,k_Map___len__⟩,⟨a_Map___len__,fn_Map___len__,k_Map___len__⟩⟩,
   F__law_below:=⟨f__law_below,_,⟨⟨_,_,_,_,_,_,_,_,_,_,rfl,l__law_below,o__law_below,.inl ⟨rfl,rfl⟩,.inl rfl⟩,k__law_below⟩,PySem.W.mg_of X G a__law_below⟩,
   F__law_flat:=⟨f__law_flat,_,⟨⟨_,_,_,_,_,_,_,_,_,_,rfl,l__law_flat,o__law_flat,.inl ⟨rfl,rfl⟩,.inl rfl⟩,k__law_flat⟩,PySem.W.mg_of X G a__law_flat⟩,
   F__law_integer:=⟨f__law_integer,_,⟨⟨_,_,_,_,_,_,_,_,_,_,rfl,l__law_integer,o__law_integer,.inl ⟨rfl,rfl⟩,.inl rfl⟩,k__law_integer⟩,PySem.W.mg_of X G a__law_integer⟩,
   F__law_form:=⟨f__law_form,_,⟨⟨_,_,_,_,_,_,_,_,_,_,rfl,l__law_form,o__law_form,.inl ⟨rfl,rfl⟩,.inl rfl⟩,k__law_form⟩,PySem.W.mg_of X G a__law_form⟩,
   F__law_normal:=⟨f__law_normal,_,⟨⟨_,_,_,_,_,_,_,_,_,_,rfl,l__law_normal,o__law_normal,.inl ⟨rfl,rfl⟩,.inl rfl⟩,k__law_normal⟩,PySem.W.mg_of X G a__law_normal⟩,
   F__law_right:=⟨f__law_right,_,⟨⟨_,_,_,_,_,_,_,_,_,_,rfl,l__law_right,o__law_right,.inl ⟨rfl,rfl⟩,.inl rfl⟩,k__law_right⟩,PySem.W.mg_of X G a__law_right⟩,
   F__law_raised:=⟨f__law_raised,_,⟨⟨_,_,_,_,_,_,_,_,_,_,rfl,l__law_raised,o__law_raised,.inl ⟨rfl,rfl⟩,.inl rfl⟩,k__law_raised⟩,PySem.W.mg_of X G a__law_raised⟩,
   F_value_of:=⟨f_value_of,_,⟨⟨_,_,_,_,_,_,_,_,_,_,rfl,l_value_of,o_value_of,.inl ⟨rfl,rfl⟩,.inl rfl⟩,k_value_of⟩,PySem.W.mg_of X G a_value_of⟩,
   F_Map___call__:=⟨f_Map___call__,_,⟨⟨_,_,_,_,_,_,_,_,_,_,rfl,l_Map___call__,o_Map___call__,.inl ⟨rfl,rfl⟩,.inl rfl⟩,k_Map___call__⟩,⟨a_Map___call__,fn_Map___call__,k_Map___call__⟩⟩,
   F_Map___eq__:=⟨f_Map___eq__,_,⟨⟨_,_,_,_,_,_,_,_,_,_,rfl,l_Map___eq__,o_Map___eq__,.inl ⟨rfl,rfl⟩,.inl rfl⟩,k_Map___eq__⟩,⟨a_Map___eq__,fn_Map___eq__,k_Map___eq__⟩⟩,
   F__law_lacking:=⟨f__law_lacking,_,⟨⟨_,_,_,_,_,_,_,_,_,_,rfl,l__law_lacking,o__law_lacking,.inl ⟨rfl,rfl⟩,.inl rfl⟩,k__law_lacking⟩,PySem.W.mg_of X G a__law_lacking⟩,
   F__law_far:=⟨f__law_far,_,⟨⟨_,_,_,_,_,_,_,_,_,_,rfl,l__law_far,o__law_far,.inl ⟨rfl,rfl⟩,.inl rfl⟩,k__law_far⟩,PySem.W.mg_of X G a__law_far⟩,
   F__law_truth:=⟨f__law_truth,_,⟨⟨_,_,_,_,_,_,_,_,_,_,rfl,l__law_truth,o__law_truth,.inl ⟨rfl,rfl⟩,.inl rfl⟩,k__law_truth⟩,PySem.W.mg_of X G a__law_truth⟩,
   F__law_order:=⟨f__law_order,_,⟨⟨_,_,_,_,_,_,_,_,_,_,rfl,l__law_order,o__law_order,.inl ⟨rfl,rfl⟩,.inl rfl⟩,k__law_order⟩,PySem.W.mg_of X G a__law_order⟩,
   F__law_value:=⟨f__law_value,_,⟨⟨_,_,_,_,_,_,_,_,_,_,rfl,l__law_value,o__law_value,.inl ⟨rfl,rfl⟩,.inl rfl⟩,k__law_value⟩,PySem.W.mg_of X G a__law_value⟩,
   F__law_gives:=⟨f__law_gives,_,⟨⟨_,_,_,_,_,_,_,_,_,_,rfl,l__law_gives,o__law_gives,.inl ⟨rfl,rfl⟩,.inl rfl⟩,k__law_gives⟩,PySem.W.mg_of X G a__law_gives⟩,
   F__law_drawn_point:=⟨f__law_drawn_point,_,⟨⟨_,_,_,_,_,_,_,_,_,_,rfl,l__law_drawn_point,o__law_drawn_point,.inl ⟨rfl,rfl⟩,.inl rfl⟩,k__law_drawn_point⟩,PySem.W.mg_of X G a__law_drawn_point⟩,
   F__law_either:=⟨f__law_either,_,⟨⟨_,_,_,_,_,_,_,_,_,_,rfl,l__law_either,o__law_either,.inl ⟨rfl,rfl⟩,.inl rfl⟩,k__law_either⟩,PySem.W.mg_of X G a__law_either⟩,
   F__law_joined:=⟨f__law_joined,_,⟨⟨_,_,_,_,_,_,_,_,_,_,rfl,l__law_joined,o__law_joined,.inl ⟨rfl,rfl⟩,.inl rfl⟩,k__law_joined⟩,PySem.W.mg_of X G a__law_joined⟩,
   F__law_both:=⟨f__law_both,_,⟨⟨_,_,_,_,_,_,_,_,_,_,rfl,l__law_both,o__law_both,.inl ⟨rfl,rfl⟩,.inl rfl⟩,k__law_both⟩,PySem.W.mg_of X G a__law_both⟩,
   F__law_pointwise:=⟨f__law_pointwise,_,⟨⟨_,_,_,_,_,_,_,_,_,_,rfl,l__law_pointwise,o__law_pointwise,.inl ⟨rfl,rfl⟩,.inl rfl⟩,k__law_pointwise⟩,PySem.W.mg_of X G a__law_pointwise⟩,
   F__law_lattice:=⟨f__law_lattice,_,⟨⟨_,_,_,_,_,_,_,_,_,_,rfl,l__law_lattice,o__law_lattice,.inl ⟨rfl,rfl⟩,.inl rfl⟩,k__law_lattice⟩,PySem.W.mg_of X G a__law_lattice⟩,
   F_shifted:=⟨f_shifted,_,⟨⟨_,_,_,_,_,_,_,_,_,_,rfl,l_shifted,o_shifted,.inl ⟨rfl,rfl⟩,.inl rfl⟩,k_shifted⟩,PySem.W.mg_of X G a_shifted⟩,
   F_placed_row:=⟨f_placed_row,_,⟨⟨_,_,_,_,_,_,_,_,_,_,rfl,l_placed_row,o_placed_row,.inl ⟨rfl,rfl⟩,.inl rfl⟩,k_placed_row⟩,PySem.W.mg_of X G a_placed_row⟩,
   F_placed:=⟨f_placed,_,⟨⟨_,_,_,_,_,_,_,_,_,_,rfl,l_placed,o_placed,.inl ⟨rfl,rfl⟩,.inl rfl⟩,k_placed⟩,PySem.W.mg_of X G a_placed⟩,
   F_composed:=⟨f_composed,_,⟨⟨_,_,_,_,_,_,_,_,_,_,rfl,l_composed,o_composed,.inl ⟨rfl,rfl⟩,.inl rfl⟩,k_composed⟩,PySem.W.mg_of X G a_composed⟩,
   F_Map___mul__:=⟨f_Map___mul__,_,⟨⟨_,_,_,_,_,_,_,_,_,_,rfl,l_Map___mul__,o_Map___mul__,.inl ⟨rfl,rfl⟩,.inl rfl⟩,k_Map___mul__⟩,⟨a_Map___mul__,fn_Map___mul__,k_Map___mul__⟩⟩,
   F__law_on_the_right:=⟨f__law_on_the_right,_,⟨⟨_,_,_,_,_,_,_,_,_,_,rfl,l__law_on_the_right,o__law_on_the_right,.inl ⟨rfl,rfl⟩,.inl rfl⟩,k__law_on_the_right⟩,PySem.W.mg_of X G a__law_on_the_right⟩,
   F_law:=⟨fa,_,⟨⟨_,_,_,_,_,_,_,_,_,_,rfl,l_law,o_law,.inl ⟨rfl,rfl⟩,.inl rfl⟩,k_law⟩,PySem.W.mg_of X G a_law⟩ }
 exact ⟨PySem.W.fnOf "law" "law" (defArgs Fu) (defBody Fu) (defScope Fu) .none kV_law dc_law pm_law an_law cd_law ct_law,fun s v=>.of_eq rfl,fun base _ _=>
  hmain base ⟨c_Map⟩ _ _ (TT base) ⟨⟨_,_,_,_,_,_,_,_,_,_,rfl,l_law,o_law,.inl ⟨rfl,rfl⟩,.inl rfl⟩,k_law⟩⟩
end Lk16
def PySem.W.Fast.tw12744124662795200447:Unit:=()
def PySem.W.Fast.tw12012610364229679519:Unit:=()
def PySem.W.Fast.tw12782181346066893822:Unit:=()
def PySem.W.Fast.tw2344927102679613370:Unit:=()
def PySem.W.Fast.tw4075552328974363061:Unit:=()
def PySem.W.Fast.tw2901591417139233331:Unit:=()
def PySem.W.Fast.tw17869211691612026834:Unit:=()
def PySem.W.Fast.tw10814869721869104464:Unit:=()
def PySem.W.Fast.tw8614693765157077104:Unit:=()
def PySem.W.Fast.tw4376409846176641454:Unit:=()
def PySem.W.Fast.tw421543158427013294:Unit:=()
def PySem.W.Fast.tw7895472208485986957:Unit:=()
def PySem.W.Fast.tw17320349346708227884:Unit:=()
def PySem.W.Fast.tw3042970007217394571:Unit:=()
def PySem.W.Fast.tw8831853461041417099:Unit:=()
def PySem.W.Fast.tw5431947858528369483:Unit:=()
def PySem.W.Fast.tw10007012633054073895:Unit:=()
def PySem.W.Fast.tw10138351381073292742:Unit:=()
def PySem.W.Fast.tw12974666424034646371:Unit:=()
def PySem.W.Fast.Tv:Unit:=()
def PySem.W.Fast.SR:Unit:=()
def PySem.W.Fast.SD:Unit:=()
def PySem.W.Fast.T8:Unit:=()
def PySem.W.Fast.T7:Unit:=()
def PySem.W.Fast.SQ:Unit:=()
def PySem.W.Fast.Te:Unit:=()
def PySem.W.Fast.Ue:Unit:=()
def PySem.W.Fast.T6:Unit:=()
def PySem.W.Fast.Vs:Unit:=()
def PySem.W.Fast.T9:Unit:=()
def PySem.W.Fast.Tc:Unit:=()
def PySem.W.Fast.Ud:Unit:=()
def PySem.W.Fast.T3:Unit:=()
def PySem.W.Fast.Ua:Unit:=()
def PySem.W.Fast.SY:Unit:=()
def PySem.W.Fast.S0:Unit:=()
def PySem.W.Fast.To:Unit:=()
open PySem PyProof.Rows PySem.W PySem.Calls in
def Lk16.HM:Prop:=∀ (w:World) (K:PySem.W.Frag) (mg:PySem.Str→Option Value) (base:Heap) (cs:Lk16.Cs) (fa:Addr) (fd:FuncData),Lk16.Tx PySem.Challenge.pw_bidehall_k16_greater_and_lesser_maps w K mg base cs→L2.FunD K "law" "law" (L2.defArgs Lk16.Fu) (L2.defBody Lk16.Fu) (L2.defScope Lk16.Fu) [] [] fa fd→L2.FnOk PySem.Challenge.pw_bidehall_k16_greater_and_lesser_maps w K mg base (L2N.CX PySem.Challenge.pw_bidehall_k16_greater_and_lesser_maps w) 11 fa fd ["_law_script"] (FD.Sr K)
class Lk16.HasHM:Prop where
 out:Lk16.HM
namespace LkH16
open PySem PyProof.Rows PySem.W PySem.Calls in
theorem PySem.W.holds_open[hm:Lk16.HasHM]{r:OpenRow}{q:Program}{loose:List PySem.Str}{α:Type}{N:Nat}
  {Xt:Shared→Bool} {XP:(PySem.Str→Option Value)→Heap→Prop}
  {Yf:Shared→α} {Ya:World→α} {YP:World→Heap→Prop}
  {d:DefRec} {kwd:List (PySem.Str × PySem.Expr)}
  (b1:LeftO r.prog q loose Xt Yf Ya N)
  (b2:∀ w s,Yf s=Ya w→YP w s.heap)
  (b3:∀ w g g',YP w g→(∀ a x,g.get? a=some x→g'.get? a=some x)→YP w g')
  (b4:∀ s,Xt s=true→XP (s.heap.nsMap mainGlobals) s.heap)
  (b5:∀ m g g',XP m g→(∀ a x,g.get? a=some x→g'.get? a=some x)→XP m g')
  (b6:defOf q r.name=some (d,kwd))
  (b7:r.prog.theDef r.name=some (d.params,d.body,d.scope))
  (b8:kwWritten? d.params.kwonlyargs d.params.kw_defaults=some kwd)
  (b9:∀ s,Xt s=true→RecFacts r.records s.heap)
  (b10:(!r.writes || r.records.isEmpty)=true)
  (b11:r.wellSaid=true)
  (b12:(chainsOk q && opensWell r.prog && (frees r.toRowW && r.within.isEmpty))=true)
  (b13:r.prog.bare)
  (b14:r.toRowW.promised)
  (call:Lk16.HM→WalkO q loose XP YP r.toRowW d kwd fun f vs=>PySem.call f vs):r.Holds:=
 _root_.PySem.W.holds_open b1 b2 b3 b4 b5 b6 b7 b8 b9 b10 b11 b12 b13 b14 (call hm.out)
open PySem PySem.W PyProof.Rows in
set_option maxRecDepth 100000 in
set_option maxHeartbeats 0 in
theorem headed[hm:Lk16.HasHM]:PySem.Challenge.rw_bidehall_k16_greater_and_lesser_maps.Holds:=by
 w_on; o_law; k_head; (case hw=>w_witness2)
 intro hmain
 k_fill
 refine FD.a7 (l:=PySem.Challenge.rw_bidehall_k16_greater_and_lesser_maps) (k:=11) (x:="_law_script") rfl rfl ⟨rfl,by decide,by decide⟩ (fun w h Y=>PySem.W.kIn_of Y) ?F
 case F=>
  intro w mg fa h KX G hmg
  refine' Lk16.all_mk KX G hmg ?z_abs ?z_all ?z_any ?z_bool ?z_dict ?z_int ?z_isinstance ?z_len ?z_list ?z_max ?z_min ?z_range ?z_sorted ?z_str ?z_sum ?z_tuple ?kv_MOST_ROWS ?a_Map ?pg_Map ?hdd_Map ?po_Map ?sat_Map ?mi_Map ?kpc_Map ?hac_Map ?hoc_Map ?noa_Map__forms ?sfq_Map ?cio_Map ?cto_Map ?hn ?ht ?a_row_of ?l_row_of ?o_row_of ?k_row_of ?a_within ?l_within ?o_within ?k_within ?a_has_below ?l_has_below ?o_has_below ?k_has_below ?a_lowest ?l_lowest ?o_lowest ?k_lowest ?a_normal ?l_normal ?o_normal ?k_normal ?a_need_rows ?l_need_rows ?o_need_rows ?k_need_rows ?a_need_few ?l_need_few ?o_need_few ?k_need_few ?a_checked_form ?l_checked_form ?o_checked_form ?k_checked_form ?a_Map___init__ ?fn_Map___init__ ?l_Map___init__ ?o_Map___init__ ?k_Map___init__ ?a_merged ?l_merged ?o_merged ?k_merged ?a_joined ?l_joined ?o_joined ?k_joined ?a_map_of ?l_map_of ?o_map_of ?k_map_of ?a_Map_names ?fn_Map_names ?l_Map_names ?o_Map_names ?k_Map_names ?a_Map___contains__ ?fn_Map___contains__ ?l_Map___contains__ ?o_Map___contains__ ?k_Map___contains__ ?a_need_alike ?l_need_alike ?o_need_alike ?k_need_alike ?a_Map___or__ ?fn_Map___or__ ?l_Map___or__ ?o_Map___or__ ?k_Map___or__ ?a_either ?l_either ?o_either ?k_either ?a_Map___and__ ?fn_Map___and__ ?l_Map___and__ ?o_Map___and__ ?k_Map___and__ ?a_Map_is_below ?fn_Map_is_below ?l_Map_is_below ?o_Map_is_below ?k_Map_is_below ?a__law_box ?l__law_box ?o__law_box ?k__law_box ?a__law_take ?l__law_take ?o__law_take ?k__law_take ?a__law_fresh ?l__law_fresh ?o__law_fresh ?k__law_fresh ?a__law_word ?l__law_word ?o__law_word ?k__law_word ?a__law_names ?l__law_names ?o__law_names ?k__law_names ?a__law_spread ?l__law_spread ?o__law_spread ?k__law_spread ?a__law_row ?l__law_row ?o__law_row ?k__law_row ?a__law_rules ?l__law_rules ?o__law_rules ?k__law_rules ?a__law_copy ?l__law_copy ?o__law_copy ?k__law_copy ?a_Map_form ?fn_Map_form ?l_Map_form ?o_Map_form ?k_Map_form ?a_Map___len__ ?fn_Map___len__ ?l_Map___len__ ?o_Map___len__ ?k_Map___len__ ?a__law_below ?l__law_below ?o__law_below ?k__law_below ?a__law_flat ?l__law_flat ?o__law_flat ?k__law_flat ?a__law_integer ?l__law_integer ?o__law_integer ?k__law_integer ?a__law_form ?l__law_form ?o__law_form ?k__law_form ?a__law_normal ?l__law_normal ?o__law_normal ?k__law_normal ?a__law_right ?l__law_right ?o__law_right ?k__law_right ?a__law_raised ?l__law_raised ?o__law_raised ?k__law_raised ?a_value_of ?l_value_of ?o_value_of ?k_value_of ?a_Map___call__ ?fn_Map___call__ ?l_Map___call__ ?o_Map___call__ ?k_Map___call__ ?a_Map___eq__ ?fn_Map___eq__ ?l_Map___eq__ ?o_Map___eq__ ?k_Map___eq__ ?a__law_lacking ?l__law_lacking ?o__law_lacking ?k__law_lacking ?a__law_far ?l__law_far ?o__law_far ?k__law_far ?a__law_truth ?l__law_truth ?o__law_truth ?k__law_truth ?a__law_order ?l__law_order ?o__law_order ?k__law_order ?a__law_value ?l__law_value ?o__law_value ?k__law_value ?a__law_gives ?l__law_gives ?o__law_gives ?k__law_gives ?a__law_drawn_point ?l__law_drawn_point ?o__law_drawn_point ?k__law_drawn_point ?a__law_either ?l__law_either ?o__law_either ?k__law_either ?a__law_joined ?l__law_joined ?o__law_joined ?k__law_joined ?a__law_both ?l__law_both ?o__law_both ?k__law_both ?a__law_pointwise ?l__law_pointwise ?o__law_pointwise ?k__law_pointwise ?a__law_lattice ?l__law_lattice ?o__law_lattice ?k__law_lattice ?a_shifted ?l_shifted ?o_shifted ?k_shifted ?a_placed_row ?l_placed_row ?o_placed_row ?k_placed_row ?a_placed ?l_placed ?o_placed ?k_placed ?a_composed ?l_composed ?o_composed ?k_composed ?a_Map___mul__ ?fn_Map___mul__ ?l_Map___mul__ ?o_Map___mul__ ?k_Map___mul__ ?a__law_on_the_right ?l__law_on_the_right ?o__law_on_the_right ?k__law_on_the_right ?a_law ?l_law ?o_law ?k_law (fun base cs fa fd T F=>hmain _ _ _ base cs fa fd T F)
  (case z_abs=>k_is)
  (case z_all=>k_is)
  (case z_any=>k_is)
  (case z_bool=>k_is)
  (case z_dict=>k_is)
  (case z_int=>k_is)
  (case z_isinstance=>k_is)
  (case z_len=>k_is)
  (case z_list=>k_is)
  (case z_max=>k_is)
  (case z_min=>k_is)
  (case z_range=>k_is)
  (case z_sorted=>k_is)
  (case z_str=>k_is)
  (case z_sum=>k_is)
  (case z_tuple=>k_is)
  (case kv_MOST_ROWS=>k_is)
  (case a_Map=>k_is)
  (case pg_Map=>k_is)
  (case hdd_Map=>k_is)
  (case po_Map=>k_is)
  (case sat_Map=>k_is)
  (case mi_Map=>k_is)
  (case kpc_Map=>k_is)
  (case hac_Map=>k_is)
  (case hoc_Map=>k_is)
  (case noa_Map__forms=>k_is)
  (case sfq_Map=>k_is)
  (case cio_Map=>k_is)
  (case cto_Map=>k_is)
  (case hn=>k_is)
  (case ht=>k_is)
  (case a_row_of=>k_is)
  (case l_row_of=>k_is)
  (case o_row_of=>k_is)
  (case k_row_of=>k_is)
  (case a_within=>k_is)
  (case l_within=>k_is)
  (case o_within=>k_is)
  (case k_within=>k_is)
  (case a_has_below=>k_is)
  (case l_has_below=>k_is)
  (case o_has_below=>k_is)
  (case k_has_below=>k_is)
  (case a_lowest=>k_is)
  (case l_lowest=>k_is)
  (case o_lowest=>k_is)
  (case k_lowest=>k_is)
  (case a_normal=>k_is)
  (case l_normal=>k_is)
  (case o_normal=>k_is)
  (case k_normal=>k_is)
  (case a_need_rows=>k_is)
  (case l_need_rows=>k_is)
  (case o_need_rows=>k_is)
  (case k_need_rows=>k_is)
  (case a_need_few=>k_is)
  (case l_need_few=>k_is)
  (case o_need_few=>k_is)
  (case k_need_few=>k_is)
  (case a_checked_form=>k_is)
  (case l_checked_form=>k_is)
  (case o_checked_form=>k_is)
  (case k_checked_form=>k_is)
  (case a_Map___init__=>k_is)
  (case fn_Map___init__=>k_is)
  (case l_Map___init__=>k_is)
  (case o_Map___init__=>k_is)
  (case k_Map___init__=>k_is)
  (case a_merged=>k_is)
  (case l_merged=>k_is)
  (case o_merged=>k_is)
  (case k_merged=>k_is)
  (case a_joined=>k_is)
  (case l_joined=>k_is)
  (case o_joined=>k_is)
  (case k_joined=>k_is)
  (case a_map_of=>k_is)
  (case l_map_of=>k_is)
  (case o_map_of=>k_is)
  (case k_map_of=>k_is)
  (case a_Map_names=>k_is)
  (case fn_Map_names=>k_is)
  (case l_Map_names=>k_is)
  (case o_Map_names=>k_is)
  (case k_Map_names=>k_is)
  (case a_Map___contains__=>k_is)
  (case fn_Map___contains__=>k_is)
  (case l_Map___contains__=>k_is)
  (case o_Map___contains__=>k_is)
  (case k_Map___contains__=>k_is)
  (case a_need_alike=>k_is)
  (case l_need_alike=>k_is)
  (case o_need_alike=>k_is)
  (case k_need_alike=>k_is)
  (case a_Map___or__=>k_is)
  (case fn_Map___or__=>k_is)
  (case l_Map___or__=>k_is)
  (case o_Map___or__=>k_is)
  (case k_Map___or__=>k_is)
  (case a_either=>k_is)
  (case l_either=>k_is)
  (case o_either=>k_is)
  (case k_either=>k_is)
  (case a_Map___and__=>k_is)
  (case fn_Map___and__=>k_is)
  (case l_Map___and__=>k_is)
  (case o_Map___and__=>k_is)
  (case k_Map___and__=>k_is)
  (case a_Map_is_below=>k_is)
  (case fn_Map_is_below=>k_is)
  (case l_Map_is_below=>k_is)
  (case o_Map_is_below=>k_is)
  (case k_Map_is_below=>k_is)
  (case a__law_box=>k_is)
  (case l__law_box=>k_is)
  (case o__law_box=>k_is)
  (case k__law_box=>k_is)
  (case a__law_take=>k_is)
  (case l__law_take=>k_is)
  (case o__law_take=>k_is)
  (case k__law_take=>k_is)
  (case a__law_fresh=>k_is)
  (case l__law_fresh=>k_is)
  (case o__law_fresh=>k_is)
  (case k__law_fresh=>k_is)
  (case a__law_word=>k_is)
  (case l__law_word=>k_is)
  (case o__law_word=>k_is)
  (case k__law_word=>k_is)
  (case a__law_names=>k_is)
  (case l__law_names=>k_is)
  (case o__law_names=>k_is)
  (case k__law_names=>k_is)
  (case a__law_spread=>k_is)
  (case l__law_spread=>k_is)
  (case o__law_spread=>k_is)
  (case k__law_spread=>k_is)
  (case a__law_row=>k_is)
  (case l__law_row=>k_is)
  (case o__law_row=>k_is)
  (case k__law_row=>k_is)
  (case a__law_rules=>k_is)
  (case l__law_rules=>k_is)
  (case o__law_rules=>k_is)
  (case k__law_rules=>k_is)
  (case a__law_copy=>k_is)
  (case l__law_copy=>k_is)
  (case o__law_copy=>k_is)
  (case k__law_copy=>k_is)
  (case a_Map_form=>k_is)
  (case fn_Map_form=>k_is)
  (case l_Map_form=>k_is)
  (case o_Map_form=>k_is)
  (case k_Map_form=>k_is)
  (case a_Map___len__=>k_is)
  (case fn_Map___len__=>k_is)
  (case l_Map___len__=>k_is)
  (case o_Map___len__=>k_is)
  (case k_Map___len__=>k_is)
  (case a__law_below=>k_is)
  (case l__law_below=>k_is)
  (case o__law_below=>k_is)
  (case k__law_below=>k_is)
  (case a__law_flat=>k_is)
  (case l__law_flat=>k_is)
  (case o__law_flat=>k_is)
  (case k__law_flat=>k_is)
  (case a__law_integer=>k_is)
  (case l__law_integer=>k_is)
  (case o__law_integer=>k_is)
  (case k__law_integer=>k_is)
  (case a__law_form=>k_is)
  (case l__law_form=>k_is)
  (case o__law_form=>k_is)
  (case k__law_form=>k_is)
  (case a__law_normal=>k_is)
  (case l__law_normal=>k_is)
  (case o__law_normal=>k_is)
  (case k__law_normal=>k_is)
  (case a__law_right=>k_is)
  (case l__law_right=>k_is)
  (case o__law_right=>k_is)
  (case k__law_right=>k_is)
  (case a__law_raised=>k_is)
  (case l__law_raised=>k_is)
  (case o__law_raised=>k_is)
  (case k__law_raised=>k_is)
  (case a_value_of=>k_is)
  (case l_value_of=>k_is)
  (case o_value_of=>k_is)
  (case k_value_of=>k_is)
  (case a_Map___call__=>k_is)
  (case fn_Map___call__=>k_is)
  (case l_Map___call__=>k_is)
  (case o_Map___call__=>k_is)
  (case k_Map___call__=>k_is)
  (case a_Map___eq__=>k_is)
  (case fn_Map___eq__=>k_is)
  (case l_Map___eq__=>k_is)
  (case o_Map___eq__=>k_is)
  (case k_Map___eq__=>k_is)
  (case a__law_lacking=>k_is)
  (case l__law_lacking=>k_is)
  (case o__law_lacking=>k_is)
  (case k__law_lacking=>k_is)
  (case a__law_far=>k_is)
  (case l__law_far=>k_is)
  (case o__law_far=>k_is)
  (case k__law_far=>k_is)
  (case a__law_truth=>k_is)
  (case l__law_truth=>k_is)
  (case o__law_truth=>k_is)
  (case k__law_truth=>k_is)
  (case a__law_order=>k_is)
  (case l__law_order=>k_is)
  (case o__law_order=>k_is)
  (case k__law_order=>k_is)
  (case a__law_value=>k_is)
  (case l__law_value=>k_is)
  (case o__law_value=>k_is)
  (case k__law_value=>k_is)
  (case a__law_gives=>k_is)
  (case l__law_gives=>k_is)
  (case o__law_gives=>k_is)
  (case k__law_gives=>k_is)
  (case a__law_drawn_point=>k_is)
  (case l__law_drawn_point=>k_is)
  (case o__law_drawn_point=>k_is)
  (case k__law_drawn_point=>k_is)
  (case a__law_either=>k_is)
  (case l__law_either=>k_is)
  (case o__law_either=>k_is)
  (case k__law_either=>k_is)
  (case a__law_joined=>k_is)
  (case l__law_joined=>k_is)
  (case o__law_joined=>k_is)
  (case k__law_joined=>k_is)
  (case a__law_both=>k_is)
  (case l__law_both=>k_is)
  (case o__law_both=>k_is)
  (case k__law_both=>k_is)
  (case a__law_pointwise=>k_is)
  (case l__law_pointwise=>k_is)
  (case o__law_pointwise=>k_is)
  (case k__law_pointwise=>k_is)
  (case a__law_lattice=>k_is)
  (case l__law_lattice=>k_is)
  (case o__law_lattice=>k_is)
  (case k__law_lattice=>k_is)
  (case a_shifted=>k_is)
  (case l_shifted=>k_is)
  (case o_shifted=>k_is)
  (case k_shifted=>k_is)
  (case a_placed_row=>k_is)
  (case l_placed_row=>k_is)
  (case o_placed_row=>k_is)
  (case k_placed_row=>k_is)
  (case a_placed=>k_is)
  (case l_placed=>k_is)
  (case o_placed=>k_is)
  (case k_placed=>k_is)
  (case a_composed=>k_is)
  (case l_composed=>k_is)
  (case o_composed=>k_is)
  (case k_composed=>k_is)
  (case a_Map___mul__=>k_is)
  (case fn_Map___mul__=>k_is)
  (case l_Map___mul__=>k_is)
  (case o_Map___mul__=>k_is)
  (case k_Map___mul__=>k_is)
  (case a__law_on_the_right=>k_is)
  (case l__law_on_the_right=>k_is)
  (case o__law_on_the_right=>k_is)
  (case k__law_on_the_right=>k_is)
  (case a_law=>k_is)
  (case l_law=>k_is)
  (case o_law=>k_is)
  (case k_law=>k_is)
end LkH16
namespace FD
open PySem L2 PyProof.Rows PySem.Spec
def obE{α:Type}(o:Option (List Cell))(k:List Cell→XO α):XO α:=match o with
 | some cs=>k cs
 | none=>.bad
def moE(n:Nat)(lk:List Nat)(ρ:Env):MO→XO Dt
 | .ok d cs=>if Gg ρ lk (some d) cs=true then .ok d (ρ.set n (some (.mh cs))) else .bad
 | .exc x cs=>if Gg ρ lk none cs=true then .exc x (ρ.set n (some (.mh cs))) else .bad
 | .bad=>.bad
def opE(o:Option Env):SOut:=match o with
 | some ρ=>.ok .nx ρ
 | none=>.bad
def lM{α:Type}(c:Option Cell)(k:List Dt→Option α):Option α:=match c with
 | some (.lst ds)=>k ds
 | _=>none
def lL{α:Type}(c:Option Cell)(k:Addr→List Str→List Dt→Option α):Option α:=match c with
 | some (.ins C ns ds)=>k C ns ds
 | _=>none
def kD(o:Option (List Cell))(k:List Cell→MO):MO:=match o with
 | some cs=>k cs
 | none=>.bad
def kc(n:Nat)(o:SOut):MO:=match o with
 | .ok .nx ρ=>kD (Ed n ρ) fun cs=>.ok .non cs
 | .ok (.rt d) ρ=>kD (Ed n ρ) fun cs=>.ok d cs
 | .exc x ρ=>kD (Ed n ρ) fun cs=>.exc x cs
 | _=>.bad
section
variable {α:Type} {ρ:Env} {n i k:Nat} {lk:List Nat} {cs:List Cell} {f fi:Env→XO Dt} {fx fj:Env→Out Dt} {fl:Env→XO (List Dt)} {ft fu:Env→XO Bool} {g h:Env→SOut} {d x:Dt} {ds:List Dt} {C:Addr} {ns:List Str} {z:Int} {e:Exn}
theorem JQ{k:List Cell→XO α}:obE (some cs) k=k cs:=rfl
theorem PU:moE n lk ρ (.ok d cs)=if Gg ρ lk (some d) cs=true then .ok d (ρ.set n (some (.mh cs))) else .bad:=rfl
theorem KA:opE (some ρ)=.ok .nx ρ:=rfl
theorem IY{k:List Dt→Option α}:lM (some (.lst ds)) k=k ds:=rfl
theorem IM{k:Addr→List Str→List Dt→Option α}:lL (some (.ins C ns ds)) k=k C ns ds:=rfl
theorem Qr:Ed 0 (some (.mh cs) :: ρ)=some cs:=rfl
theorem Pe{l:Option Lo}:Ed (n + 1) (l :: ρ)=Ed n ρ:=by
 unfold Ed
 rw [List.getElem?_cons_succ]
theorem Vx{f:Env→Out α}:xP f ρ=(f ρ).x ρ:=rfl
theorem UW{gg:Dt→Dt→Option Dt}:x2 f fi gg ρ=(f ρ).bind fun a ρ1=>(fi ρ1).bind fun b ρ2=>(GI (gg a b)).x ρ2:=rfl
theorem Pc{gg:Dt→Option Bool}:jR f gg ρ=(f ρ).bind fun a ρ1=>(GI (gg a)).x ρ1:=rfl
theorem Qw{gg:Dt→Dt→Option Bool}:WU f fi gg ρ=(f ρ).bind fun a ρ1=>(fi ρ1).bind fun b ρ2=>(GI (gg a b)).x ρ2:=rfl
theorem JU:Uu ft ρ=(ft ρ).bind fun b ρ1=>.ok (!b) ρ1:=rfl
theorem J9:LZ f fl ρ=(f ρ).bind fun d ρ1=>(fl ρ1).bind fun ds ρ2=>.ok (d :: ds) ρ2:=rfl
theorem Nk:cA fl ρ=(fl ρ).bind fun ds ρ1=>if ds.length≤16777216 then .ok ds ρ1 else .bad:=rfl
theorem I6{φ:List Dt→List Cell→MO}:Az n φ fl lk ρ=(fl ρ).bind fun ds ρ1=>obE (Ed n ρ1) fun cs=>moE n lk ρ1 (φ ds cs):=rfl
theorem M0:cv n fl lk ρ=(fl ρ).bind fun ds ρ1=>obE (Ed n ρ1) fun cs=>if (lk.all (G0 ρ1) || Dt.E7 ds || (Dt.Zf ds && lk.all (Nt ρ1)))=true then .ok (.ad cs.length) (ρ1.set n (some (.mh (cs ++ [.lst ds])))) else .bad:=rfl
theorem MS:fS n (.ad k) (.int z) d ρ=(Ed n ρ).bind fun cs=>lM (cs[k]?) fun ds=>(ixN ds.length z).map fun j=>ρ.set n (some (.mh (cs.set k (.lst (ds.set j d))))):=rfl
theorem MB{Cs:List Addr}{fd:Str}:fm n Cs fd (.ad k) d ρ=(Ed n ρ).bind fun cs=>lL (cs[k]?) fun C ns ds=>if C∈Cs∧ns.length < 1000 then some (ρ.set n (some (.mh (cs.set k (.ins C (putN fd ns) (RU fd d ns ds)))))) else none:=rfl
theorem Ki:IV n fx ρ=(fx ρ).bind fun d=>GI (bV (Ed n ρ) d):=rfl
theorem L3:bV (some cs) (.ad k)=(cs[k]?).bind Cell.d:=rfl
theorem Cell.Um:Cell.d (.lst ds)=some (.lst ds):=rfl
theorem Kr:BO i f lk ρ=xE (f ρ) fun d ρ=>.ok .nx ((AQ d lk ρ).set i (some (.sh d))):=rfl
theorem JX:Ss f lk ρ=xE (f ρ) fun d ρ=>.ok (.rt d) (AQ d lk ρ):=rfl
theorem MJ:OH ft g h ρ=xE (ft ρ) fun b ρ=>if b=true then g ρ else h ρ:=rfl
theorem HQ:KS n fx fj f lk ρ=xE (f ρ) fun d ρ1=>IL (fx (AQ d lk ρ1)) (AQ d lk ρ1) fun x=>IL (fj (AQ d lk ρ1)) (AQ d lk ρ1) fun i=>opE (fS n x i d (AQ d lk ρ1)):=rfl
theorem Kv{Cs:List Addr}{fd:Str}:VI n Cs fd fx f lk ρ=xE (f ρ) fun d ρ1=>IL (fx (AQ d lk ρ1)) (AQ d lk ρ1) fun x=>opE (fm n Cs fd x d (AQ d lk ρ1)):=rfl
theorem J6{u:Dt→Env→Option Env}:Se u fl lk g ρ=xE (fl ρ) fun ds ρ=>Bm u g ds (frz lk ρ):=rfl
theorem HE:Jy fl ρ=(fl ρ).bind fun ds ρ1=>(GI (Zo ds)).x ρ1:=rfl
theorem Nj{fa:Env→Out Dt}{f1 f2:Env→Out (Option Int)}:Nx fa f1 f2 ρ=(fa ρ).bind fun a=>(f1 ρ).bind fun lo=>(f2 ρ).bind fun hi=>GI (W4 a lo hi):=rfl
theorem I4{lo hi:Option Int}:W4 (.lst ds) lo hi=some (.lst (cutD ds lo hi)):=rfl
theorem IZ{lo hi:Option Int}:W4 (.fls ds) lo hi=some (.lst (cutD ds lo hi)):=rfl
theorem Mw{m:Nat}{b:Env→SOut}:runM m b ds cs=kc m (b (ds.map (fun d=>some (Lo.sh d)) ++ List.replicate (m - ds.length) none ++ [some (.mh cs)])):=rfl
theorem L0:kc n (.ok (.rt d) ρ)=kD (Ed n ρ) fun cs=>.ok d cs:=rfl
theorem JS{k:List Cell→MO}:kD (some cs) k=k cs:=rfl
end
end FD
namespace FD
open PySem L2 PyProof.Rows PySem.Spec
section
variable {K:PySem.W.Frag} {S:List Nat} {σ:L2.St} {μ μ':Mu} {H H' H0:Hp} {ρ ρ':Env} {A0:Ad} {lk la lb:List Nat} {W:WX} {d e:Dt} {v:V} {cs cs':List Cell} {n k:Nat} {c:Cell} {a:Addr}
theorem StOk.gvC(s:StOk ⟨K,μ⟩ H0 A0 H ρ σ)(e:ρ[n]? = some (some (.mh cs)))(hc:cs[k]? = some c)(hl:c.live=true)(ha:μ.l[k]? = some a):
  StOk ⟨K,μ⟩ H0 A0 H (ρ.set n (some (.mh (cs.set k .gone)))) σ∧(∀ j b,Bw ⟨K,μ⟩ (ρ.set n (some (.mh (cs.set k .gone)))) σ j b→Bw ⟨K,μ⟩ ρ σ j b∧b≠a):=by
 have ho:Bw ⟨K,μ⟩ ρ σ n a:=⟨_,e,k,c,hc,hl,ha⟩
 have h0:=(s.Ci ho).2
 have hi:n < σ.length:=by rw [s.len]; exact (List.getElem?_eq_some_iff.mp e).1
 have hk:k < cs.length:=(List.getElem?_eq_some_iff.mp hc).1
 have hn:n < ρ.length:=(List.getElem?_eq_some_iff.mp e).1
 obtain ⟨nd,hlen,hcs⟩:=s.lo n _ e
 have sp:∀ (j:Nat) (c2:Cell),(cs.set k .gone)[j]? = some c2→c2.live=true→j≠k∧cs[j]? = some c2:=fun j c2 e1 hv=>by
  by_cases hj:k=j
  ·subst hj
   rw [List.getElem?_set_self hk] at e1
   cases e1
   cases hv
  ·rw [List.getElem?_set_ne hj] at e1
   exact ⟨fun z=>hj z.symm,e1⟩
 have own:∀ sv b,Dw ⟨K,μ⟩ (.mh (cs.set k .gone)) sv b→Dw ⟨K,μ⟩ (.mh cs) sv b∧b≠a:=fun sv b ⟨j,c2,e1,hv,e2⟩=>by
  obtain ⟨h1,h2⟩:=sp j c2 e1 hv
  refine ⟨⟨j,c2,h2,hv,e2⟩,fun z=>?_⟩
  subst z
  exact h1 (nd j k _ c2 c h2 hc hv hl e2 ha)
 have q:=StOk.OR (F:=K) (m:=μ) (m':=μ) (H':=H) s n (some (.mh (cs.set k .gone))) σ[n] (Xt.refl _) (.inl rfl) s.same (fun _ _ q _=>q) (fun l e2 b h=>by
  cases e2
  exact .inl ⟨_,e,(by obtain ⟨⟨j,c2,e1,hv,e2⟩,_⟩:=own _ b h; exact ⟨j,c2,e1,hv,e2⟩)⟩) (fun _ _=>⟨cs,e⟩) fun l e2 A' hA=>by
  cases e2
  have hA':∀ b,A' b→Av ⟨K,μ⟩ A0 ρ σ [] b:=fun b z=>(hA b z).elim (fun z=>z.nil) fun z=>.inr ⟨n,(fun q=>nomatch q),_,e,(by obtain ⟨⟨j,c2,e1,hv,e2⟩,_⟩:=own _ b z; exact ⟨j,c2,e1,hv,e2⟩)⟩
  refine ⟨fun j1 j2 b c1 c2 e1 e2 v1 v2 m1 m2=>nd j1 j2 b c1 c2 (sp j1 c1 e1 v1).2 (sp j2 c2 e2 v2).2 v1 v2 m1 m2,by rw [List.length_set]; exact hlen,fun j c2 b e1 e3=>?_⟩
  by_cases hv:c2.live=true
  ·exact (hcs j c2 b (sp j c2 e1 hv).2 e3).gen (Xt.refl _) (fun _ _ _ q=>q) (fun b z=>.inl (hA' b z)) (fun _ o q=>q) (fun _ z=>z)
  ·cases c2 with
   | gone=>exact trivial
   | _=>exact absurd rfl hv
 rw [Dy (List.getElem?_eq_getElem hi)] at q
 refine ⟨q,fun j b ⟨l,f1,f2⟩=>?_⟩
 by_cases hj:n=j
 ·subst hj
  rw [List.getElem?_set_self hn] at f1
  cases f1
  obtain ⟨q1,q2⟩:=own _ b f2
  exact ⟨⟨_,e,q1⟩,q2⟩
 ·rw [List.getElem?_set_ne hj] at f1
  refine ⟨⟨l,f1,f2⟩,fun z=>?_⟩
  subst z
  exact hj (s.ap n j b ho ⟨l,f1,f2⟩)
theorem Ch.gv(hS:n∈S)(o1:∀ j b,Bw ⟨K,μ⟩ ρ' σ j b→Bw ⟨K,μ⟩ ρ σ j b)(k1:∀ j,j∉S→ρ'[j]? = ρ[j]?):Ch K S σ μ H ρ μ H ρ':=
 ⟨Xt.refl _,fun _ _ e _=>e,k1,fun j a hj h=>.inl ⟨j,hj,o1 j a h⟩,.inl rfl⟩
end
end FD
namespace FD
open PySem L2 PyProof.Rows PySem.Spec
section
variable {X:Cx} {W:WX} {S:List Nat} {p:Pos}
end
theorem Ah.rep{κ:KM}{H:Hp}{A:Ad}{ds:List Dt}{vs:List V}(r:Ah κ H A ds vs):∀ n:Nat,Ah κ H A (List.replicate n ds).flatten (List.replicate n vs).flatten
 | 0=>Ah.nil
 | n + 1=>by
  rw [List.replicate_succ,List.replicate_succ,List.flatten_cons,List.flatten_cons]
  exact Ah.append r (Ah.rep r n)
section
variable {K:PySem.W.Frag} {W:WX} {la lb lk:List Nat}
end
end FD
namespace FD
open PySem L2 PyProof.Rows PySem.Spec
def keyD:Dt→Option Key
 | .int i=>some (.inl i)
 | .str s=>some (.inr s)
 | _=>none
def IW:Key→Dt
 | .inl i=>.int i
 | .inr s=>.str s
theorem JT{κ:KM}{H:Hp}{A:Ad}{d:Dt}{v:V}{k:Key}(h:keyD d=some k)(r:Rep κ H A d v):v=kV k:=by
 cases d <;> try (cases h; done)
 ·cases h; exact r
 ·cases h; exact r
theorem Q2{κ:KM}{H:Hp}{A:Ad}(k:Key):Rep κ H A (IW k) (kV k):=by
 cases k <;> rfl
def Qy:List Key→List Dt→Key→Dt→List Dt
 | k :: ks,d :: ds,j,x=>(if k=j then x else d) :: Qy ks ds j x
 | _,ds,_,_=>ds
instance decKey (j:Key) (ks:List Key):Decidable (j∈ks):=decidable_of_iff (ks.any (fun x=>decide (x=j))=true) (by
 rw [List.any_eq_true]
 exact ⟨fun ⟨x,m,e⟩=>(of_decide_eq_true e) ▸ m,fun h=>⟨j,h,decide_eq_true rfl⟩⟩)
def E2(ks:List Key)(j:Key):List Key:=if j∈ks then ks else ks ++ [j]
def Df(ks:List Key)(ds:List Dt)(j:Key)(x:Dt):List Dt:=if j∈ks then Qy ks ds j x else ds ++ [x]
def SN:List Key→List Dt→Key→Option Dt
 | k :: ks,d :: ds,j=>if k=j then some d else SN ks ds j
 | _,_,_=>none
theorem Lb{kvs:List (Key × V)}{k:Key}{v:V}:(putK kvs k v).map (·.1)=E2 (kvs.map (·.1)) k:=by
 unfold putK E2
 by_cases h:k∈kvs.map (·.1)
 ·rw [if_pos h,if_pos]
  ·rw [List.map_map]
   refine List.map_congr_left fun kv _=>?_
   simp only [Function.comp]
   split <;> rfl
  ·obtain ⟨kv,m,e⟩:=List.mem_map.mp h
   exact List.any_eq_true.mpr ⟨kv,m,decide_eq_true e⟩
 ·rw [if_neg h,if_neg]
  ·rw [List.map_append]
   rfl
  ·intro z
   obtain ⟨kv,m,e⟩:=List.any_eq_true.mp z
   exact h (List.mem_map.mpr ⟨kv,m,of_decide_eq_true e⟩)
theorem R7{κ:KM}{H:Hp}{A:Ad}{k:Key}{v:V}{x:Dt}(rx:Rep κ H A x v):∀ {kvs:List (Key × V)} {ds:List Dt},Ah κ H A ds (kvs.map (·.2))→Ah κ H A (Qy (kvs.map (·.1)) ds k x) ((kvs.map fun kv=>if kv.1=k then (kv.1,v) else kv).map (·.2))
 | [],ds,r=>by
  have:ds=[]:=by
   have:=r.length
   simpa using this.symm
  subst this
  exact Ah.nil
 | kv :: kvs,[],r=>by
  have:=r.length
  simp at this
 | kv :: kvs,d :: ds,r=>by
  unfold Ah at r
  obtain ⟨u,us,e,r1,r2⟩:=r
  rw [List.map_cons] at e
  injection e with e1 e2
  subst e1 e2
  rw [List.map_cons,List.map_cons,List.map_cons]
  unfold Qy
  refine Ah.cons ?_ (R7 rx r2)
  by_cases h:kv.1=k
  ·rw [if_pos h,if_pos h]; exact rx
  ·rw [if_neg h,if_neg h]; exact r1
theorem K9{κ:KM}{H:Hp}{A:Ad}{k:Key}{v:V}{x:Dt}{kvs:List (Key × V)}{ds:List Dt}(rx:Rep κ H A x v)(r:Ah κ H A ds (kvs.map (·.2))):Ah κ H A (Df (kvs.map (·.1)) ds k x) ((putK kvs k v).map (·.2)):=by
 unfold putK Df
 by_cases h:k∈kvs.map (·.1)
 ·rw [if_pos h,if_pos]
  ·exact R7 rx r
  ·obtain ⟨kv,m,e⟩:=List.mem_map.mp h
   exact List.any_eq_true.mpr ⟨kv,m,decide_eq_true e⟩
 ·rw [if_neg h,if_neg]
  ·rw [List.map_append]
   exact Ah.append r (Ah.cons rx Ah.nil)
  ·intro z
   obtain ⟨kv,m,e⟩:=List.any_eq_true.mp z
   exact h (List.mem_map.mpr ⟨kv,m,of_decide_eq_true e⟩)
theorem Oi{kvs:List (Key × V)}{k:Key}:(valV kvs k).isSome=decide (k∈kvs.map (·.1)):=by
 rw [← valV_any]
 by_cases h:k∈kvs.map (·.1)
 ·rw [decide_eq_true h]
  obtain ⟨kv,m,e⟩:=List.mem_map.mp h
  exact List.any_eq_true.mpr ⟨kv,m,decide_eq_true e⟩
 ·rw [decide_eq_false h]
  refine List.any_eq_false.mpr fun kv m=>?_
  simp only [decide_eq_true_eq]
  exact fun e=>h (List.mem_map.mpr ⟨kv,m,e⟩)
theorem Z6{κ:KM}{H:Hp}{A:Ad}{k:Key}{d:Dt}:∀ {kvs:List (Key × V)} {ds:List Dt},Ah κ H A ds (kvs.map (·.2))→SN (kvs.map (·.1)) ds k=some d→∃ v,valV kvs k=some v∧Rep κ H A d v
 | [],ds,r,e=>by cases e
 | kv :: kvs,[],r,e=>by cases e
 | kv :: kvs,d0 :: ds,r,e=>by
  unfold Ah at r
  obtain ⟨u,us,eu,r1,r2⟩:=r
  rw [List.map_cons] at eu e
  injection eu with e1 e2
  subst e1 e2
  unfold SN at e
  by_cases h:kv.1=k
  ·rw [if_pos h] at e
   cases e
   exact ⟨kv.2,valV_pos h,r1⟩
  ·rw [if_neg h] at e
   obtain ⟨v,h1,h2⟩:=Z6 r2 e
   exact ⟨v,by rw [valV_neg h]; exact h1,h2⟩
def Eb(i:Nat):Env→SOut:=fun ρ=>.ok .nx (ρ.set i (some (.od [] [])))
def A8(i:Nat)(fk f:Env→Out Dt)(lk:List Nat):Env→SOut:=fun ρ=>IL (f ρ) ρ fun d=>match (AQ d lk ρ)[i]? with
 | some (some (.od ks ds))=>IL (fk (AQ d lk ρ)) (AQ d lk ρ) fun k=>(match keyD k with
  | some k=>if ks.length < 16777216 then .ok .nx ((AQ d lk ρ).set i (some (.od (E2 ks k) (Df ks ds k d)))) else .bad
  | none=>.bad)
 | _=>.bad
def DN(a b:Dt):Option Bool:=match b with
 | .dic ks _=>(keyD a).map fun k=>decide (k∈ks)
 | _=>none
def Au(a b:Dt):Option Dt:=match a with
 | .dic ks ds=>(keyD b).bind fun k=>SN ks ds k
 | _=>none
section
variable {K:PySem.W.Frag} {W:WX} {la lb lk:List Nat}
theorem bq(i:Nat):Jc K W (tAsg tDNewK (gName i)) (Eb i):=by
 intro μ H0 A0 ρ σ H D s h
 intro p hp
 have q:=s.W6 (i:=i) (lk:=[]) (ks:=[]) (ds:=[]) (kvs:=[]) (Same.new hp) hp upd_same rfl Ah.nil
 exact h _ _ _ (Xt.refl _) q
theorem ZL{i:Nat}{te tk:TE}{f fk:Env→Out Dt}(ha:D3 K W te f la)(hk:D3 K W tk fk lb):Jc K W (sDPut (tVar i) tk te) (A8 i fk f la):=by
 intro μ H0 A0 ρ σ H D s h
 unfold A8 at h
 refine ha _ _ _ _ _ _ _ s (A9.st s h fun d _ h2 v H1 s1 r1=>?_)
 obtain ⟨s2,r2⟩:=fzD s s1 r1
 split at h2
 ·rename_i ks ds e2
  obtain ⟨a,kvs,e1,h0,h1,hks,r3⟩:=s2.lo i _ e2
  refine ⟨_,e1,?_⟩
  refine hk _ _ _ _ _ _ _ s2 (A9.st s2 h2 fun k _ h3 w H2 s3 r4=>?_)
  have sg:=s2.grow s3
  split at h3
  ·rename_i k' ek
   split at h3
   ·rename_i hl
    subst hks
    have ew:=JT ek r4
    subst ew
    have h1':=s3 _ _ h1
    refine ⟨a,_,rfl,DPut.k h1' (by rw [List.length_map] at hl; rw [sizeLine_eq]; exact hl),?_⟩
    exact h3 _ _ _ (Xt.refl _) (sg.kh e2 e1 Lb (K9 (r2.same s3) (r3.same s3)))
   ·exact False.elim h3
  ·exact False.elim h3
 ·exact False.elim h2
theorem HL{κ:KM}{H:Hp}{A:Ad}{ks:List Key}{ds:List Dt}{v:V}(r:Rep κ H A (.dic ks ds) v):∃ a kvs,v=.ref a∧Rd H a (.dK kvs)∧kvs.map (·.1)=ks∧Ah κ H A ds (kvs.map (·.2)):=by
 unfold Rep at r
 obtain ⟨a,kvs,rfl,_,h1,h2,h3⟩:=r
 exact ⟨a,kvs,rfl,h1,h2,h3⟩
theorem Wn{ta tb:TE}{fa fb:Env→Out Dt}(ha:D3 K W ta fa la)(hb:D3 K W tb fb lb):TY K W (tB (tDNotIn ta tb)) (t2 fa fb (Dq DN)) []:=by
 intro μ H0 A0 ρ σ H Q s h
 refine ha _ _ _ _ _ _ _ s (h.seq fun a ea h1 v1 H1 s1 r1=>?_)
 clear ea
 refine hb _ _ _ _ _ _ _ (s.grow s1) ((h1.grow s1).seq fun b eb h2 v2 H2 s2 r2=>?_)
 clear eb h1
 obtain ⟨k,e,q⟩:=B6 h2
 unfold Dq at e
 obtain ⟨k0,ek0,rfl⟩:=Option.map_eq_some_iff.mp e
 clear e
 have e:=ek0
 clear ek0
 unfold DN at e
 split at e
 ·rename_i ks ds
  obtain ⟨k',ek,rfl⟩:=Option.map_eq_some_iff.mp e
  obtain ⟨p,kvs,rfl,h3,rfl,r3⟩:=HL r2
  have e1:=JT ek r1
  subst e1
  refine ⟨p,valV kvs k',rfl,.inl ⟨kvs,k',h3,rfl,rfl⟩,_,rfl,?_⟩
  rw [Oi]
  exact q H2 (s1.trans s2)
 ·cases e
theorem eF{ta tb:TE}{fa fb:Env→Out Dt}(ha:D3 K W ta fa la)(hb:D3 K W tb fb lb):D3 K W (tDGet ta tb) (e2 fa fb Au) (la ++ lb):=by
 intro μ H0 A0 ρ σ H Q s h
 refine ha _ _ _ _ _ _ _ s (h.seq fun a ea h1 v1 H1 s1 r1=>?_)
 clear ea
 refine hb _ _ _ _ _ _ _ (s.grow s1) ((h1.grow s1).seq fun b eb h2 v2 H2 s2 r2=>?_)
 clear eb h1
 obtain ⟨d,e,q⟩:=B6 h2
 unfold Au at e
 split at e
 ·rename_i ks ds
  obtain ⟨k',ek,e⟩:=Option.bind_eq_some_iff.mp e
  obtain ⟨p,kvs,rfl,h3,rfl,r3⟩:=HL (r1.same s2)
  have e1:=JT ek r2
  subst e1
  obtain ⟨v,ev,rv⟩:=Z6 r3 e
  refine ⟨p,v,rfl,.inl ⟨kvs,k',h3,rfl,ev.symm⟩,q _ _ (s1.trans s2) (rv.BZ fun _=>bf)⟩
 ·cases e
theorem NU{κ:KM}{H:Hp}{A:Ad}:∀ kvs:List (Key × V),Ah κ H A ((kvs.map (·.1)).map IW) (kvs.map fun kv=>kV kv.1)
 | []=>Ah.nil
 | kv :: kvs=>Ah.cons (Q2 kv.1) (NU kvs)
end
section
variable {X:Cx} {W:WX} {a b e:Expr} {fa fb f fk:Env→Out Dt} {la lb lk:List Nat} {pos p p1 p2 p3:Pos} {j:Nat}
theorem u1(hr:Room j X.A):X.A.units + 1 < cLine:=by have:=Sk hr; omega
theorem Et(i:Nat){x:Str}{pos':Pos}(hN:X.N.Nodup)(hi:X.N[i]? = some x:=by rfl)(hx:Loc X.env.scope x:=by first | exact Or.inl rfl | exact Or.inr rfl)(hs:swapsWith (.Dict [] [] p) (some (.Name x pos')) pos.line X.env=pure false:=by rfl)
  (hf:X.fn x=true∨X.env.scope.names.lookup x=some .local:=by first | exact .inl rfl | exact .inr rfl | assumption):Nq X W (.Assign [.Name x pos'] (.Dict [] [] p) pos) (Eb i):=
 ⟨_,ps_set hN hi hx pe_dnewK hs hf,bq i⟩
theorem Ei(hr:Room j X.A)(i:Nat){x:Str}(h:Bv X W e f lk)(hk:Bv X W a fk la)(hN:X.N[i]? = some x:=by rfl)(hv:Vis X.env.scope x:=by first | exact Or.inl rfl | exact Or.inr (Or.inl rfl) | exact Or.inr (Or.inr rfl))(hd:(x == ("__debug__" : Str))=false:=by decide)
  (hcd:(x == ("__classdict__" : Str))=false:=by decide) (hs:swapsWith e (some (.Subscript (.Name x p1) a p2)) pos.line X.env=pure false:=by rfl):Nq X W (.Assign [.Subscript (.Name x p1) a p2] e pos) (A8 i fk f lk):=by
 obtain ⟨t,p,d⟩:=h
 obtain ⟨t',p',d'⟩:=hk
 exact ⟨_,ps_dput (u1 hr) (pe_var hN hv hd hcd) p' p hs,ZL d d'⟩
theorem Gv(hr:Room j X.A)(ha:Bv X W a fa la)(hb:Bv X W b fb lb)(hm:behindInMarks .NotIn b=false:=by first | exact nobehind _ (by decide) (by decide) | rfl):VP X W (.Compare a [.NotIn] [b] pos) (t2 fa fb (Dq DN)) []:=by
 obtain ⟨t,p,d⟩:=ha
 obtain ⟨t',p',d'⟩:=hb
 exact ⟨_,pt_cmp (pc_dnotin (u1 hr) p p') hm,Wn d d'⟩
theorem A4(hr:Room j X.A)(ha:Bv X W a fa la)(hb:Bv X W b fb lb)(hs:NoSl b:=by exact fun _ _=>rfl):Bv X W (.Subscript a b pos) (e2 fa fb Au) (la ++ lb):=by
 obtain ⟨t,p,d⟩:=ha
 obtain ⟨t',p',d'⟩:=hb
 exact ⟨_,pe_dget (u1 hr) p p' hs,eF d d'⟩
end
end FD
namespace FD
open PySem L2 PyProof.Rows PySem.Spec
section
variable {K:PySem.W.Frag} {W:WX} {la lb lc lk:List Nat}
end
section
variable {X:Cx} {W:WX} {a b c e:Expr} {fa fb:Env→Out (List Dt)} {ft:Env→Out Bool} {la lb lc lk:List Nat} {pos p p1 p2 p3:Pos} {j:Nat}
end
end FD
namespace HotX
open PySem PySem.Spec PyProof.Rows
variable {prog:Program} {w:World} {A:Around} {E:Value→Shared→Prop} {s:Shared}
end HotX
namespace L2H
open PySem PySem.Spec PyProof.Rows L2 HotX
end L2H
namespace FD
open PySem L2 L2H PyProof.Rows PySem.Spec
section
variable {K:PySem.W.Frag} {W:WX} {lk la:List Nat}
end
section
variable {X:Cx} {W:WX} {a e tg iter:Expr} {es:List Expr} {f:Env→Out Dt} {fs fl:Env→Out (List Dt)} {g:Env→SOut} {u:Dt→Env→Option Env} {lk la:List Nat} {pos p:Pos} {body:List Stmt} {j:Nat}
end
structure ClH (P:Program) (w:World) (K:PySem.W.Frag) (mg:Str→Option Value) (base:Heap) (x:Str) (k n:Nat) (φ:List Dt→Out Dt):Prop where
 ex:∃ (f:Addr) (fd:FuncData) (ps:List Str),FnH P w K mg base (L2N.CX P w) k f fd ps (DA K n φ)∧mg x=some (.ref f)∧PySem.W.keepIn K (.ref f)=true∧Binds K fd ps []
section
variable {P:Program} {w:World} {K:PySem.W.Frag} {mg:Str→Option Value} {base:Heap}
end
section
variable {X:Cx} {W:WX} {e:Expr} {es:List Expr} {fs:Env→Out (List Dt)} {lk:List Nat} {p pos:Pos} {φ:List Dt→Out Dt}
end
end FD
namespace FD
open PySem L2 PyProof.Rows PySem.Spec
section
variable {X:Cx} {W:WX} {S lk la:List Nat} {e o:Expr} {pos p2 p3:Pos}
end
end FD
namespace FD
open PySem L2 PyProof.Rows PySem.Spec
section
variable {X:Cx} {W:WX} {a b c e tg:Expr} {fa fb fc f:Env→Out Dt} {la lb lc lk:List Nat} {pos:Pos}
end
end FD
namespace FD
open PySem L2 PyProof.Rows PySem.Spec
section
variable {ρ:Env} {n i k:Nat} {d:Dt} {ds:List Dt} {cs:List Cell} {lk:List Nat} {f fa fb fk fx:Env→Out Dt} {fl fl2:Env→Out (List Dt)} {ft:Env→Out Bool} {fi:Env→XO Dt} {fxl:Env→XO (List Dt)} {u:Dt→Env→Option Env} {z:Int}
theorem Ko{g:List Dt→Option (List Dt)}:lB g fl ρ=(fl ρ).bind fun ds=>GI (g ds):=rfl
theorem K4:cw f ρ=(f ρ).bind fun a=>GI (bF a):=rfl
theorem HB:bF (.lst ds)=some ds.reverse:=rfl
theorem HS:Kh [.lst ds]=some (.tup ds):=rfl
theorem Kk:Eb i ρ=.ok .nx (ρ.set i (some (.od [] []))):=rfl
def odE(o:Option (Option Lo))(k:List Key→List Dt→SOut):SOut:=match o with
 | some (some (.od ks ds))=>k ks ds
 | _=>.bad
theorem Qs{ks:List Key}{k:List Key→List Dt→SOut}:odE (some (some (.od ks ds))) k=k ks ds:=rfl
theorem J4:A8 i fk f lk ρ=IL (f ρ) ρ fun d=>odE ((AQ d lk ρ)[i]?) fun ks ds=>IL (fk (AQ d lk ρ)) (AQ d lk ρ) fun k=>IL (GI (keyD k)) ρ fun k=>if ks.length < 16777216 then .ok .nx ((AQ d lk ρ).set i (some (.od (E2 ks k) (Df ks ds k d)))) else .bad:=by
 unfold A8
 congr 1
 funext d
 generalize (AQ d lk ρ)[i]? = o
 cases o with
 | none=>rfl
 | some o=>cases o with
  | none=>rfl
  | some l=>cases l with
   | od ks ds=>
    show IL _ _ _=IL _ _ _
    congr 1
    funext k
    cases keyD k <;> rfl
   | _=>rfl
theorem JO{s:Str}:keyD (.str s)=some (.inr s):=rfl
theorem Kf{ks:List Key}:DN d (.dic ks ds)=(keyD d).map fun k=>decide (k∈ks):=rfl
theorem MF:isN (.lst ds) .non=some false:=rfl
theorem Nc{z y:Int}:Q4 (.int z) (.int y)=some (!(z == y)):=rfl
theorem aC{vs:List Nat}{t:Env→Out Bool}{src:Env→Out (List Dt)}:EA u vs t f src lk ρ=(src ρ).bind fun ds=>if ds.length≤16777216 then OF u t f (BJ (frz lk ρ) vs) ds else .bad:=rfl
theorem QA{t:Env→Out Bool}:OF u t f ρ (d :: ds)=(GI (u d ρ)).bind fun ρ1=>(OC (t ρ1)).bind fun b=>if b=true then (OC (f ρ1)).bind fun y=>(OF u t f ρ ds).bind fun r=>.ok (y :: r) else OF u t f ρ ds:=rfl
theorem O0:AI ρ=.ok true:=rfl
end
theorem Mj{α:Type}{i:Nat}{f:Env→Out Dt}{ρ:Env}{e:α→Dt}{g:α→Dt}:∀ {xs:List α},(∀ x∈xs,f (ρ.set i (some (.sh (e x))))=.ok (g x))→OF (Ai i) AI f ρ (xs.map e)=.ok (xs.map g)
 | [],_=>rfl
 | x :: xs,h=>by
  rw [List.map_cons,QA,HI]
  simp only [B3,Out.AA,O0,Cf,if_true,h x List.mem_cons_self]
  rw [Mj fun x hx=>h x (List.mem_cons_of_mem _ hx)]
  rfl
def d9:SOut→Out Dt
 | .ok .nx _=>.ok .non
 | .ok (.rt d) _=>if d.na=true then .ok d else .bad
 | .exc x _=>.exc x
 | _=>.bad
theorem ff{n:Nat}{g:Env→SOut}{ds:List Dt}(h:Dt.IA ds=true):QP n g ds=d9 (g (ds.map (fun d=>some (Lo.sh d)) ++ List.replicate (n - ds.length) none ++ [some (.mh [])])):=by
 unfold QP
 rw [if_pos h]
 generalize g _=o
 cases o with
 | ok f ρ=>cases f <;> rfl
 | exc x ρ=>rfl
 | bad=>rfl
theorem dH{d:Dt}{ρ:Env}(h:d.na=true):d9 (.ok (.rt d) ρ)=.ok d:=if_pos h
theorem AJ{n:Nat}{φ:List Dt→Out Dt}{ds:List Dt}(h:ds.length=n):Ct n φ ds=φ ds:=if_pos h
theorem GA{n:Nat}{φ:List Dt→List Cell→MO}{ds:List Dt}{cs:List Cell}(h:ds.length=n):LO n φ ds cs=φ ds cs:=if_pos h
end FD
namespace FD
open PySem L2
end FD
namespace FD
open PySem L2 PyProof.Rows PySem.Spec
section
variable {K:PySem.W.Frag} {W:WX} {la lb lz lk:List Nat} {S:List Nat}
end
def JG:List Dt→Option (List Int)
 | []=>some []
 | .int i :: ds=>(JG ds).map fun ns=>i :: ns
 | _=>none
theorem I8:∀ ns:List Int,JG (ns.map .int)=some ns
 | []=>rfl
 | n :: ns=>by rw [List.map_cons,JG,I8 ns]; rfl
def Za:Dt→Option (List Dt)
 | .lst ds=>some ds
 | .fls ds=>some ds
 | _=>none
def RD:List Dt→Option Dt
 | [d]=>(Za d).bind fun ds=>(JG ds).map fun ns=>.int ns.sum
 | _=>none
def Fy:List Int→Int
 | []=>0
 | [a]=>a
 | a :: b :: l=>max a (Fy (b :: l))
def QG:List Int→Int
 | []=>0
 | [a]=>a
 | a :: b :: l=>min a (QG (b :: l))
theorem HC:∀ {l:List Int},l≠[]→Fy l∈l∧∀ y∈l,y≤Fy l
 | [],h=>absurd rfl h
 | [a],_=>⟨List.mem_singleton.mpr rfl,fun y hy=>by rw [List.mem_singleton.mp hy]; exact Int.le_refl _⟩
 | a :: b :: l,_=>by
  obtain ⟨h1,h2⟩:=HC (l:=b :: l) (by simp)
  unfold Fy
  constructor
  ·by_cases h:a≤Fy (b :: l)
   ·rw [Int.max_eq_right h]; exact List.mem_cons_of_mem _ h1
   ·rw [Int.max_eq_left (by omega)]; exact List.mem_cons_self
  ·intro y hy
   rcases List.mem_cons.mp hy with rfl | hy
   ·omega
   ·have:=h2 y hy; omega
theorem N1:∀ {l:List Int},l≠[]→QG l∈l∧∀ y∈l,QG l≤y
 | [],h=>absurd rfl h
 | [a],_=>⟨List.mem_singleton.mpr rfl,fun y hy=>by rw [List.mem_singleton.mp hy]; exact Int.le_refl _⟩
 | a :: b :: l,_=>by
  obtain ⟨h1,h2⟩:=N1 (l:=b :: l) (by simp)
  unfold QG
  constructor
  ·by_cases h:a≤QG (b :: l)
   ·rw [Int.min_eq_left h]; exact List.mem_cons_self
   ·rw [Int.min_eq_right (by omega)]; exact List.mem_cons_of_mem _ h1
  ·intro y hy
   rcases List.mem_cons.mp hy with rfl | hy
   ·omega
   ·have:=h2 y hy; omega
def Gb:List Dt→Option Dt
 | [d]=>(Za d).bind fun ds=>(JG ds).bind fun ns=>if ns=[] then none else some (.int (Fy ns))
 | _=>none
def Lw:List Dt→Option Dt
 | [d]=>(Za d).bind fun ds=>(JG ds).bind fun ns=>if ns=[] then none else some (.int (QG ns))
 | _=>none
section
variable {K:PySem.W.Frag} {κ:KM} {H:Hp} {A:Ad}
theorem OU:∀ {ds:List Dt} {ns:List Int} {vs:List V},JG ds=some ns→Ah κ H A ds vs→vs=ns.map V.int
 | [],ns,vs,e,r=>by cases e; unfold Ah at r; rw [r]; rfl
 | d :: ds,ns,vs,e,r=>by
  unfold Ah at r
  obtain ⟨v,us,rfl,r1,r2⟩:=r
  cases d <;> try (cases e; done)
  rename_i i
  unfold JG at e
  obtain ⟨ms,e',rfl⟩:=Option.map_eq_some_iff.mp e
  rw [OU e' r2,List.map_cons]
  rw [show v=V.int i from r1]
theorem Nz{K:PySem.W.Frag}{μ:Mu}{d:Dt}{ds:List Dt}{v:V}(e:Za d=some ds)(r:Rep ⟨K,μ⟩ H A d v):∃ a us,v=.ref a∧SqL K H a us∧Ah ⟨K,μ⟩ H A ds us:=by
 cases d <;> try (cases e; done)
 ·cases e
  unfold Rep at r
  obtain ⟨a,us,rfl,_,h1,r2⟩:=r
  exact ⟨a,us,rfl,SqL.of h1,r2⟩
 ·cases e
  unfold Rep at r
  obtain ⟨a,us,rfl,h1,r2⟩:=r
  exact ⟨a,us,rfl,SqL.ez h1,r2⟩
theorem cB:Uc K (rSum K) RD:=by
 intro μ H A ds d vs Q ha r e q
 unfold RD at e
 split at e
 ·obtain ⟨v,rfl,rr⟩:=Dg r
  obtain ⟨es,e1,e⟩:=Option.bind_eq_some_iff.mp e
  obtain ⟨ns,e2,rfl⟩:=Option.map_eq_some_iff.mp e
  obtain ⟨a,us,rfl,h1,r2⟩:=Nz e1 rr
  have h2:=OU e2 r2
  subst h2
  exact ⟨a,ns,rfl,h1,RE.now q rfl⟩
 ·cases e
theorem aw:Uc K (rMax K) Gb:=by
 intro μ H A ds d vs Q ha r e q
 unfold Gb at e
 split at e
 ·obtain ⟨v,rfl,rr⟩:=Dg r
  obtain ⟨es,e1,e⟩:=Option.bind_eq_some_iff.mp e
  obtain ⟨ns,e2,e⟩:=Option.bind_eq_some_iff.mp e
  obtain ⟨a,us,rfl,h1,r2⟩:=Nz e1 rr
  have h2:=OU e2 r2
  subst h2
  by_cases hn:ns=[]
  ·rw [if_pos hn] at e; cases e
  ·rw [if_neg hn] at e
   cases e
   obtain ⟨m1,m2⟩:=HC hn
   refine ⟨a,ns,rfl,h1,List.length_pos_iff.mpr hn,fun m hm hle=>?_⟩
   have:m=Fy ns:=by have:=hle _ m1; have:=m2 _ hm; omega
   rw [this]
   exact RE.now q rfl
 ·cases e
theorem ax:Uc K (rMin K) Lw:=by
 intro μ H A ds d vs Q ha r e q
 unfold Lw at e
 split at e
 ·obtain ⟨v,rfl,rr⟩:=Dg r
  obtain ⟨es,e1,e⟩:=Option.bind_eq_some_iff.mp e
  obtain ⟨ns,e2,e⟩:=Option.bind_eq_some_iff.mp e
  obtain ⟨a,us,rfl,h1,r2⟩:=Nz e1 rr
  have h2:=OU e2 r2
  subst h2
  by_cases hn:ns=[]
  ·rw [if_pos hn] at e; cases e
  ·rw [if_neg hn] at e
   cases e
   obtain ⟨m1,m2⟩:=N1 hn
   refine ⟨a,ns,rfl,h1,List.length_pos_iff.mpr hn,fun m hm hle=>?_⟩
   have:m=QG ns:=by have:=hle _ m1; have:=m2 _ hm; omega
   rw [this]
   exact RE.now q rfl
 ·cases e
end
theorem Y1:∀ ds d,RD ds=some d→d.scal=true:=fun ds d e=>by
 unfold RD at e
 split at e
 ·obtain ⟨es,e1,e⟩:=Option.bind_eq_some_iff.mp e
  obtain ⟨ns,e2,rfl⟩:=Option.map_eq_some_iff.mp e
  rfl
 ·cases e
theorem WS:∀ ds d,Gb ds=some d→d.scal=true:=fun ds d e=>by
 unfold Gb at e
 split at e
 ·obtain ⟨es,e1,e⟩:=Option.bind_eq_some_iff.mp e
  obtain ⟨ns,e2,e⟩:=Option.bind_eq_some_iff.mp e
  split at e
  ·cases e
  ·cases e; rfl
 ·cases e
theorem WK:∀ ds d,Lw ds=some d→d.scal=true:=fun ds d e=>by
 unfold Lw at e
 split at e
 ·obtain ⟨es,e1,e⟩:=Option.bind_eq_some_iff.mp e
  obtain ⟨ns,e2,e⟩:=Option.bind_eq_some_iff.mp e
  split at e
  ·cases e
  ·cases e; rfl
 ·cases e
section
variable {X:Cx} {W:WX} {e o:Expr} {es:List Expr} {fs:Env→Out (List Dt)} {fk fz:Env→Out Dt} {lk la lb lz S:List Nat} {p apos cpos p1 p2 pos:Pos} {j:Nat}
theorem bH(hc:X.calm=true)(hg:Gl X "sum")(hm:X.mg "sum" = none)(ha:JN X W [e] fs lk)(he:starEach [e] X.env=(false,eval e X.env) :: starEach [] X.env:=by rfl):Bv X W (.Call (.Name "sum" p) [e] [] pos) (eB RD fs) []:=by
 obtain ⟨ta,pa,da⟩:=ha
 exact ⟨_,pe_callB (cr_sum hc) hg hm (by decide +kernel) pa (by decide) (by decide) he rfl,F4 cB Y1 da⟩
theorem Mm(hc:X.calm=true)(hg:Gl X "max")(hm:X.mg "max" = none)(ha:JN X W [e] fs lk)(he:starEach [e] X.env=(false,eval e X.env) :: starEach [] X.env:=by rfl):Bv X W (.Call (.Name "max" p) [e] [] pos) (eB Gb fs) []:=by
 obtain ⟨ta,pa,da⟩:=ha
 exact ⟨_,pe_callB (cr_max hc) hg hm boot_max pa (by decide) (by decide) he rfl,F4 aw WS da⟩
theorem XS(hc:X.calm=true)(hg:Gl X "min")(hm:X.mg "min" = none)(ha:JN X W [e] fs lk)(he:starEach [e] X.env=(false,eval e X.env) :: starEach [] X.env:=by rfl):Bv X W (.Call (.Name "min" p) [e] [] pos) (eB Lw fs) []:=by
 obtain ⟨ta,pa,da⟩:=ha
 exact ⟨_,pe_callB (cr_min hc) hg hm boot_min pa (by decide) (by decide) he rfl,F4 ax WK da⟩
end
end FD
namespace FD
open PySem L2 PyProof.Rows PySem.Spec
section
variable {K:PySem.W.Frag} {W:WX} {la lb lz lk:List Nat} {S:List Nat}
end
section
variable {X:Cx} {W:WX} {e o:Expr} {es:List Expr} {fs:Env→Out (List Dt)} {fk fz:Env→Out Dt} {lk la lb lz S:List Nat} {p apos cpos p1 p2 pos:Pos} {j:Nat} {st:Stmt} {b:Env→SOut}
end
end FD
namespace FD
open PySem L2 PyProof.Rows PySem.Spec
section
variable {K:PySem.W.Frag} {W:WX} {S:List Nat}
end
section
variable {X:Cx} {W:WX} {S:List Nat}
end
end FD
namespace SrtO
open PySem PySem.Spec PyProof.Rows
section
variable {prog:Program} {w:World} {A:Around} {E:Value→Shared→Prop} {s:Shared}
def jt(h:Heap)(v:Value)(ns:List Int):Prop:=ns≠[]∧∃ a o items n,v=.ref a∧h.get? a=some o∧o.cls=.type "tuple"∧o.data=.seq items n∧IntsAre items.toList ns
theorem jt.keeps{h h':Heap}{v:Value}{ns:List Int}(p:jt h v ns)(k:∀ b o,h.get? b=some o→o.cls=.type "tuple"→h'.get? b=some o):jt h' v ns:=by
 obtain ⟨hn,a,o,items,n,e,ho,hc,hd,hi⟩:=p
 exact ⟨hn,a,o,items,n,e,k _ _ ho hc,hc,hd,hi⟩
end
section
variable {α β:Type}
def ins(lt:α→α→Bool)(x:α):List α→List α
 | []=>[x]
 | y :: l=>if lt y x=true then y :: ins lt x l else x :: y :: l
end
end SrtO
namespace L2
open PySem PySem.Spec PyProof.Rows
def TIs(K:PySem.W.Frag)(H:Hp):List V→List (List Int)→Prop
 | [],[]=>True
 | x :: xs,ns :: nss=>ns≠[]∧(∃ t,x=V.ref t∧SqT K H t (ns.map V.int))∧TIs K H xs nss
 | _,_=>False
theorem TIs.mem{K:PySem.W.Frag}{H:Hp}:∀ {xs:List V} {nss:List (List Int)},TIs K H xs nss→∀ x∈xs,∃ ns,ns≠[]∧∃ t,x=V.ref t∧SqT K H t (ns.map V.int)
 | x :: xs,ns :: nss,⟨h1,h2,h3⟩,y,hy=>by
  rcases List.mem_cons.mp hy with rfl | hy
  ·exact ⟨ns,h1,h2⟩
  ·exact TIs.mem h3 y hy
section
variable {X:Cx}
end
end L2
namespace FD
open PySem L2 PyProof.Rows PySem.Spec
section
variable {K:PySem.W.Frag} {κ:KM} {H:Hp} {A:Ad}
end
section
variable {X:Cx} {W:WX} {e:Expr} {fs:Env→Out (List Dt)} {lk:List Nat} {p pos:Pos}
end
end FD
namespace L2
open PySem PySem.Spec PyProof.Rows
def ku(K:PySem.W.Frag)(neg:Bool):R2:=fun x y H Q=>∃ p xs d ds,y=.ref p∧SqL K H p xs∧Dp K H x d∧DpAll K H xs ds∧SeqAt.shaped d=true∧ds.all SeqAt.shaped=true∧Q (.bl (if neg then !(ds.any fun e=>PyData.eqv e d) else (ds.any fun e=>PyData.eqv e d))) H
open Classical in
noncomputable def Wz(h:Heap)(d:PyData)(u:Value):Bool:=if q:∃ e,SeqAt.shaped e=true∧∃ as,PySem.Reads h u e as then PyData.eqv (choose q) d else false
section
variable {X:Cx}
theorem eI{h:Heap}{d e:PyData}{u:Value}{as:List Addr}(hs:SeqAt.shaped e=true)(r:PySem.Reads h u e as):Wz h d u=PyData.eqv e d:=by
 have q:∃ e,SeqAt.shaped e=true∧∃ as,PySem.Reads h u e as:=⟨e,hs,as,r⟩
 unfold Wz
 rw [dif_pos q]
 obtain ⟨h1,bs,h2⟩:=Classical.choose_spec q
 rw [SeqAt.Reads.unique _ _ _ _ _ (SeqAt.canLay_of_shaped hs) r h2]
theorem Uq{pins:List (Addr × Obj)}{σ:St}{H:Hp}{s:Shared}(I:Inv X pins σ H s)(hu:X.A.units + 66 < cLine){d:PyData}{v:Value}{as:List Addr}(hd:SeqAt.shaped d=true)(rv:PySem.Reads s.heap v d as):
  ∀ {xs:List V} {us:List Value} {ds:List PyData},Vals xs us→DpAll X.K H xs ds→ds.all SeqAt.shaped=true→(∀ u∈us,SeqAt.EqAt X.A.in1 s u v (Wz s.heap d u))∧us.any (Wz s.heap d)=ds.any fun e=>PyData.eqv e d
 | [],_,[],.nil,_,_=>⟨(fun _ h=>nomatch h),rfl⟩
 | x :: xs,u :: us,e :: ds,.cons r t,h,hs=>by
  rw [List.all_cons,Bool.and_eq_true] at hs
  cases h with
  | cons h1 h2=>
   obtain ⟨k1,k2⟩:=Uq I hu hd rv t h2 hs.2
   obtain ⟨bs,rb⟩:=Dp.reads I e x u h1 r
   have ee:=eI (d:=d) hs.1 rb
   refine ⟨fun w hw=>?_,by rw [List.any_cons,List.any_cons,ee,k2]⟩
   rcases List.mem_cons.mp hw with rfl | hw
   ·rw [ee]
    exact SeqAt.eqAt_reads e d _ _ _ _ _ _ rb rv (SeqAt.canLay_of_shaped hs.1) (SeqAt.canLay_of_shaped hd) (SeqAt.room_of_shaped (A:=X.A.in1) hs.1 (by show X.A.units + 1 + 64 < cLine; omega))
   ·exact k1 w hw
theorem Yr(hu:X.A.units + 66 < cLine):OpR X (compareOp .NotIn) (ku X.K true):=by
 intro pins s σ H x y v u Q I rx ry h
 obtain ⟨p,xs,d,ds,rfl,hq,hd,hds,sd,sds,q⟩:=h
 cases ry
 obtain ⟨its,r,pl,hz⟩:=I.list hq
 obtain ⟨as,rv⟩:=Dp.reads I d x v hd rx
 obtain ⟨k1,k2⟩:=Uq I hu sd rv r hds sds
 refine SeqAt.notIn_listAt (Wz s.heap d) pl.isList (fun w hw=>k1 w (by simpa using hw)) ⟨.bl _,H,I,rfl,?_⟩
 rw [show its.toArray.any (Wz s.heap d)=its.any (Wz s.heap d) by simp,k2]
 exact q
end
end L2
namespace FD
open PySem L2 PyProof.Rows PySem.Spec
def Rq(a b:Dt):Option Bool:=a.py.bind fun d=>(Za b).bind fun es=>(Dt.Pb es).bind fun ds=>if SeqAt.shaped d=true∧ds.all SeqAt.shaped=true then some (ds.any fun e=>PyData.eqv e d) else none
theorem V8{K:PySem.W.Frag}:OQ K (ku K true) (Dq Rq):=by
 intro μ H A a b d x y Q ra rb e q
 obtain ⟨d',e',rfl⟩:=Option.map_eq_some_iff.mp e
 clear e
 unfold Rq at e'
 obtain ⟨p,h1,e'⟩:=Option.bind_eq_some_iff.mp e'
 obtain ⟨es,h2,e'⟩:=Option.bind_eq_some_iff.mp e'
 obtain ⟨ds,h3,e'⟩:=Option.bind_eq_some_iff.mp e'
 obtain ⟨⟨h4,h5⟩,rfl⟩:=Bq e'
 obtain ⟨t,us,rfl,hs,r⟩:=Nz h2 rb
 exact ⟨t,us,p,ds,rfl,hs,Rep.dp a x p h1 ra,Ah.dN es us ds h3 r,h4,h5,q⟩
theorem YZ{X:Cx}{j:Nat}(hr:Room j X.A):Cmp X .NotIn (Dq Rq):=⟨_,Yr (by have:=hr.un; omega),V8⟩
section
variable {K:PySem.W.Frag} {W:WX} {la lb lk:List Nat}
end
section
variable {X:Cx} {W:WX} {S:List Nat} {a b e:Expr} {fa fb f fk fv:Env→Out Dt} {la lb lk:List Nat} {pos p p1 p2 p3:Pos} {j:Nat}
end
section
variable {X:Cx} {W:WX} {S:List Nat} {a b e:Expr} {fa fb:Env→XO Dt} {fs:Env→XO (List Dt)} {la lb lk:List Nat} {pos p:Pos}
end
end FD
namespace PySem.FX
open PySem PySem.W PySem.Calls PyProof.Rows PySem.Spec
section
variable {prog:Program} {w:World} {A:Around} {E:Value→Shared→Prop} {s:Shared} {K:Frag} {mg:Str→Option Value} {C fI cc cda:Addr} {qual:Str} {params:Arguments} {body:List Stmt} {scope:Scope}
variable {R:Result→Shared→Prop} {base:Heap}
end
end PySem.FX
namespace PySem
end PySem
namespace L2
open PySem PySem.Spec PyProof.Rows
end L2
namespace FD
open PySem L2 PyProof.Rows PySem.Spec
section
variable {K:PySem.W.Frag} {W:WX} {la lb lk:List Nat}
end
section
variable {X:Cx} {W:WX} {e:Expr} {lo hi:Option Expr} {fl fh:Env→Out (Option Int)} {f:Env→Out Dt} {la:List Nat} {p2 pos:Pos}
end
end FD
namespace L2
open PySem PySem.Spec PyProof.Rows
def jJ(a b:PyData):Bool:=PySem.W.dataLe false (fun d:PyData=>d) a b
def TV(a b:V × PyData):Bool:=PySem.W.dataLe false (fun p:V × PyData=>p.2) a b
def Ur(K:PySem.W.Frag):List V→Hp→VK→Prop:=fun vs H Q=>∃ (a:Addr) (xs:List V) (ds:List PyData),vs=[V.ref a]∧SqL K H a xs∧DpAll K H xs ds∧PySem.W.AllAlike ds∧PySem.W.Sortable ds∧(∀ d∈ds,d.depth≤60) ∧
 ∀ p,H p=none→Q (.ref p) (upd H p (.lst (((xs.zip ds).mergeSort TV).map (·.1))))
section
variable {X:Cx}
theorem SE{pins:List (Addr × Obj)}{σ:St}{H:Hp}{s:Shared}(I:Inv X pins σ H s):∀ {xs:List V} {us:List Value} {ds:List PyData},Vals xs us→DpAll X.K H xs ds →
  PySem.W.EachIs (fun (u:Value) (b:V × PyData)=>RelV b.1 u) us (xs.zip ds)∧PySem.W.EachIs (fun (u:Value) (b:V × PyData)=>∃ as,PySem.Reads s.heap u b.2 as) us (xs.zip ds)∧(xs.zip ds).map (·.2)=ds
 | [],_,[],.nil,_=>⟨.nil,.nil,rfl⟩
 | x :: xs,u :: us,d :: ds,.cons r t,.cons h1 h2=>by
  obtain ⟨k1,k2,k3⟩:=SE I t h2
  obtain ⟨as,ra⟩:=Dp.reads I d x u h1 r
  exact ⟨.cons r k1,.cons ⟨as,ra⟩ k2,by rw [List.zip_cons_cons,List.map_cons,k3]⟩
theorem Nv:∀ {us:List Value} {bs:List (V × PyData)},PySem.W.EachIs (fun (u:Value) (b:V × PyData)=>RelV b.1 u) us bs→Vals (bs.map (·.1)) us
 | _,_,.nil=>.nil
 | _,_,.cons r t=>.cons r (Nv t)
theorem Wq(hu:X.A.units + 66 < cLine):CallR X (.builtin "sorted") (Ur X.K):=by
 intro pins s σ H vs us Q I r h
 obtain ⟨a,xs,ds,rfl,hs,hd,ha,hk,hdep,q⟩:=h
 obtain ⟨its,rv,hl,hz⟩:=I.list hs
 obtain ⟨u,rfl,ru⟩:=vals1 r
 obtain rfl:u=Value.ref a:=ru
 obtain ⟨k1,k2,k3⟩:=SE I rv hd
 have hlen:=k1.length
 refine PySem.W.sorted_data (bs:=xs.zip ds) (enc:=fun p:V × PyData=>p.2) hl.isList k1 k2 (by rw [k3]; exact ha) (by rw [k3]; exact hk) (by rw [← hlen,← rv.length]; exact hz) (fun b hb=>?_) fun out ho he=>?_
 ·have:b.2∈ds:=by rw [← k3]; exact List.mem_map.mpr ⟨b,hb,rfl⟩
  have:=hdep _ this
  show X.A.units + 2 + b.2.depth < cLine
  omega
 ·have hv:=Nv he
  refine ⟨.ref (s.heap.objs.size + 1),upd H (s.heap.objs.size + 1) (.lst (((xs.zip ds).mergeSort TV).map (·.1))),?_,rfl,q _ (I.hok.fresh (Nat.le_succ _))⟩
  obtain ⟨n,hn⟩:∃ n,(sortedAll s.heap its (List.toArray out)).get? (s.heap.objs.size + 1)=some (seqObj "list" out.toArray n):=sortedAll_at s.heap its out.toArray
  refine I.laid (t':=s.toks) (fun b o e=>sortedAll_old e) (Nat.le_succ _) ⟨?_,out,n,hv,hn⟩
  show (((xs.zip ds).mergeSort TV).map (·.1)).length≤sizeLine
  rw [List.length_map,List.length_mergeSort,← hlen,← rv.length]
  exact hz
end
end L2
namespace FD
open PySem L2 PyProof.Rows PySem.Spec
def LQ(ps:List PyData):Bool:=ps.all fun a=>ps.all fun b=>PySem.W.alike a b
def cM:PyData→Bool
 | .tuple (_ :: _)=>true
 | _=>false
def othB:PyData→Bool
 | .none=>false
 | .tuple _=>false
 | _=>true
def Ma(ps:List PyData):Bool:=(ps.all cM || ps.all othB) && ps.all fun d=>decide (d.depth≤60)
def TU(a b:Dt × PyData):Bool:=jJ a.2 b.2
def Cw:List Dt→Option (List Dt)
 | [d]=>(Za d).bind fun ds=>(Dt.Pb ds).bind fun ps=>if LQ ps=true∧Ma ps=true then some (((ds.zip ps).mergeSort TU).map (·.1)) else none
 | _=>none
section
variable {K:PySem.W.Frag} {κ:KM} {H:Hp} {A:Ad}
theorem NA:∀ {ds:List Dt} {vs:List V} {ps:List PyData},Ah κ H A ds vs→PySem.W.EachIs (fun (p:Dt × PyData) (q:V × PyData)=>Rep κ H A p.1 q.1∧p.2=q.2) (ds.zip ps) (vs.zip ps)
 | [],vs,ps,r=>by
  unfold Ah at r
  subst r
  exact .nil
 | d :: ds,vs,[],r=>by
  rw [List.zip_nil_right,List.zip_nil_right]
  exact .nil
 | d :: ds,vs,p :: ps,r=>by
  unfold Ah at r
  obtain ⟨u,us,rfl,r1,r2⟩:=r
  exact .cons ⟨r1,rfl⟩ (NA r2)
theorem NL:∀ {as:List (Dt × PyData)} {bs:List (V × PyData)},PySem.W.EachIs (fun (p:Dt × PyData) (q:V × PyData)=>Rep κ H A p.1 q.1∧p.2=q.2) as bs→Ah κ H A (as.map (·.1)) (bs.map (·.1))
 | _,_,.nil=>Ah.nil
 | _,_,.cons h t=>Ah.cons h.1 (NL t)
theorem Yi{K:PySem.W.Frag}:CaL K (Ur K) Cw:=by
 intro μ H A ds es vs Q r e q
 unfold Cw at e
 split at e
 ·obtain ⟨v,rfl,rr⟩:=Dg r
  obtain ⟨es',e1,e⟩:=Option.bind_eq_some_iff.mp e
  obtain ⟨ps,e2,e⟩:=Option.bind_eq_some_iff.mp e
  obtain ⟨⟨h1,h2⟩,rfl⟩:=Bq e
  obtain ⟨a,us,rfl,hs,r2⟩:=Nz e1 rr
  unfold Ma at h2
  rw [Bool.and_eq_true,Bool.or_eq_true] at h2
  obtain ⟨h3,h4⟩:=h2
  refine ⟨a,us,ps,rfl,hs,Ah.dN es' us ps e2 r2,fun d hd d' hd'=>List.all_eq_true.mp (List.all_eq_true.mp h1 d hd) d' hd',?_,fun d hd=>of_decide_eq_true (List.all_eq_true.mp h4 d hd),fun p hp=>q p _ hp ?_⟩
  ·rcases h3 with h3 | h3
   ·refine .inl fun d hd=>?_
    have:=List.all_eq_true.mp h3 d hd
    cases d <;> try (exact Bool.noConfusion this)
    rename_i l
    cases l with
    | nil=>exact Bool.noConfusion this
    | cons x l=>exact ⟨x,l,rfl⟩
   ·refine .inr fun d hd=>?_
    have:=List.all_eq_true.mp h3 d hd
    cases d <;> first | exact Bool.noConfusion this | exact ⟨(fun z=>nomatch z),(fun xs z=>nomatch z)⟩
  ·have ee:=NA (ps:=ps) r2
   exact NL (PySem.W.sort_each (r:=TU) (s:=TV) ee fun p hp q hq=>by
    have a1:=(ee.zip p hp).2
    have a2:=(ee.zip q hq).2
    show jJ p.1.2 q.1.2=jJ p.2.2 q.2.2
    rw [a1,a2])
 ·cases e
end
section
variable {X:Cx} {W:WX} {e:Expr} {fs:Env→Out (List Dt)} {lk:List Nat} {p pos:Pos} {j:Nat}
theorem G2(hr:Room j X.A)(hg:Gl X "sorted")(hm:X.mg "sorted" = none)(ha:JN X W [e] fs lk)(he:starEach [e] X.env=(false,eval e X.env) :: starEach [] X.env:=by rfl):ZC X W (.Call (.Name "sorted" p) [e] [] pos) (lB Cw fs) lk:=by
 obtain ⟨ta,pa,da⟩:=ha
 exact ⟨_,pe_callB (Wq (by have:=hr.un; omega)) hg hm PyProof.Rows.boot_sorted pa (by decide) (by decide) he rfl,g4 Yi da⟩
end
end FD
namespace L2
open PySem PySem.Spec PyProof.Rows
def jD:CmpOp→PyData→PyData→Bool
 | .Lt,a,b=>PySem.W.dataLt a b
 | .Gt,a,b=>PySem.W.dataLt b a
 | .LtE,a,b=>!PySem.W.dataLt b a
 | _,a,b=>!PySem.W.dataLt a b
def lD:CmpOp→Bool
 | .Lt=>true
 | .Gt=>true
 | .LtE=>true
 | .GtE=>true
 | _=>false
def kF(K:PySem.W.Frag)(op:CmpOp):R2:=fun x y H Q=>∃ d e,Dp K H x d∧Dp K H y e∧PySem.W.alike d e=true∧d≠.none∧d.depth≤60∧Q (.bl (jD op d e)) H
section
variable {X:Cx}
theorem hW{op:CmpOp}(ho:lD op=true)(hu:X.A.units + 66 < cLine):OpR X (compareOp op) (kF X.K op):=by
 intro pins s σ H x y v u Q I rx ry h
 obtain ⟨d,e,hd,he,ha,hn,hdep,q⟩:=h
 obtain ⟨as,ra⟩:=Dp.reads I d x v hd rx
 obtain ⟨bs,rb⟩:=Dp.reads I e y u he ry
 have hb:X.A.units + min d.depth e.depth < cLine:=by omega
 cases op <;> first
  | exact Bool.noConfusion ho
  | exact PySem.W.lt_data ra rb ha hn hb ⟨.bl _,H,I,rfl,q⟩
  | exact PySem.W.gt_data ra rb ha hn hb ⟨.bl _,H,I,rfl,q⟩
  | exact PySem.W.le_data ra rb ha hn hb ⟨.bl _,H,I,rfl,q⟩
  | exact PySem.W.ge_data ra rb ha hn hb ⟨.bl _,H,I,rfl,q⟩
end
end L2
namespace FD
open PySem L2 PyProof.Rows PySem.Spec
def j6:PyData→Bool
 | .none=>true
 | _=>false
def Lm(op:CmpOp)(a b:Dt):Option Bool:=a.py.bind fun d=>b.py.bind fun e=>if PySem.W.alike d e=true∧j6 d=false∧d.depth≤60 then some (jD op d e) else none
theorem cy{K:PySem.W.Frag}{op:CmpOp}:OQ K (kF K op) (Lm op):=by
 intro μ H A a b d x y Q ra rb e q
 unfold Lm at e
 obtain ⟨p,h1,e⟩:=Option.bind_eq_some_iff.mp e
 obtain ⟨p',h2,e⟩:=Option.bind_eq_some_iff.mp e
 obtain ⟨⟨h3,h4,h5⟩,rfl⟩:=Bq e
 exact ⟨p,p',Rep.dp a x p h1 ra,Rep.dp b y p' h2 rb,h3,(fun z=>by rw [z] at h4; exact Bool.noConfusion h4),h5,q⟩
theorem bN{X:Cx}{j:Nat}{op:CmpOp}(hr:Room j X.A)(ho:lD op=true:=by rfl):Cmp X op (Lm op):=⟨_,hW ho (by have:=hr.un; omega),cy⟩
def jl(i j:Int):Bool:=decide ((-(2 ^ 64) < i∧i < 2 ^ 64)∨(-(2 ^ 64) < j∧j < 2 ^ 64))
end FD
namespace FD
open PySem L2 PyProof.Rows PySem.Spec
def HX(i j:Int):Bool:=Wy i j || jl i j
abbrev gm(i j:Int):Prop:=i.natAbs.log2 + j.natAbs.log2 < 1000000∨CMul i j
theorem dF{X:Cx}:OpR X (binaryOp .Mult) (rI gm fun i j=>.int (i * j)):=opI fun i j _ _ _ _ _ hc q=>by
 rcases hc with hc | hc
 ·exact mul_int q (CMulW.ok hc)
 ·exact mul_int q hc.ok
theorem jC{i j:Int}(h:HX i j=true):gm i j:=by
 unfold HX at h
 rw [Bool.or_eq_true] at h
 rcases h with h | h
 ·exact .inl (of_decide_eq_true h)
 ·unfold jl at h
  have h2:=of_decide_eq_true h
  exact .inr h2
section
variable {X:Cx} {W:WX} {S:List Nat} {a b:Expr} {pos:Pos} {fa fb:Env→Out Dt} {ga gb:Env→XO Dt} {la lb:List Nat}
theorem Il(ha:Bv X W a fa la)(hb:Bv X W b fb lb):Bv X W (.BinOp a .Mult b pos) (e2 fa fb (gI HX (· * ·))) []:=by
 obtain ⟨ta,pa,da⟩:=ha
 obtain ⟨tb,pb,db⟩:=hb
 exact ⟨_,pe_op dF pa pb,NO (Uk fun i j h=>jC h) Nl da db⟩
end
end FD
namespace LiI
open PySem L2 PySem.Spec PyProof.Rows
def rItD:V→Hp→VK→Prop:=fun v H Q=>∃ (a:Addr) (es:List (Key × V)),v=.ref a∧Rd H a (.dK es) ∧
 ∀ (G:Hp) (q:Addr) (us:List Addr),(∀ c u,H c=some u→G c=some u)→H q=none→(∀ u∈us,H u=none)→q∉us→G q=some (.lst (us.map V.ref))→Paired (fun (u:Addr) (z:Key × V)=>G u=some (.tup [kV z.1,z.2])) us es→Q (.ref q) G
def j0(t:TE):TE:=fun σ H Q=>t σ H fun v G=>rItD v G Q
theorem jc{X:Cx}{a:Expr}{t:TE}{q1 q2 q3 q4:Pos}(ca:X.calm=true)(pa:PE X a t)(gl:Gl X "list")(no:X.mg "list" = none)(b1:attributeBase a "items" X.env (eval a X.env)=eval a X.env:=by rfl)(ln:(q2.endLine == q3.line)=true:=by rfl)
  (st:starEach [.Call (.Attribute a "items" q2) [] [] q3] X.env=(false,eval (.Call (.Attribute a "items" q2) [] [] q3) X.env) :: starEach [] X.env:=by rfl):
  PE X (.Call (.Name "list" q1) [.Call (.Attribute a "items" q2) [] [] q3] [] q4) (j0 t):=by
 constructor
 intro pins s σ H Q I go
 refine wpAny_Call_Name_kw (ld_blt I gl no PyProof.Rows.boot_list ?_)
 refine PyProof.Rows.callWith_type1 ?_ st rfl
 rw [st]
 show wpAny _ _ (spliced ((false,eval (.Call (.Attribute a "items" q2) [] [] q3) X.env) :: backTo q4 (starEach [] X.env))) _ _ s
 refine Calls.spliced_cons (wpAny_Call_method (T:="dict") (id:="dict.items") b1 rfl ln F.plainAttrs_dict F.slot_dict_items F.type_dict_items (thn (pa.run pins s σ H _ I go) fun u s1 ⟨v,G,J,rv,d,es,ev,rd,k⟩=>?_))
 subst ev
 obtain rfl:u=Value.ref d:=rv
 obtain ⟨w1,w2,vs,kv,od⟩:=rd.ok J.hok
 obtain ⟨ep,NR⟩:=od.dictAt
 have ll:es.length=vs.length:=Paired.length kv
 have J2:Inv X pins σ G { s1 with heap:=s1.heap.push { cls:=.type "dict_items",data:=.fields #[.ref d] } }:=J.kept (t':=s1.toks) fun b ob e=>Heap.get?_push_of_some _ e
 refine ⟨od.typeIs,od.mapOf.noDict,?_⟩
 show wpAny _ _ (callWith q3 (.builtin "dict.items") [.ref d] [] []) _ X.xe s1
 refine method_meetsIn F.slot_dict_items F.entry_dict_items rfl (PySem.evalArgs_none ⟨rfl,od.typeIs,F.args_dict_items_1 _,_,meets_dict_items (mixKind X.prog X.w) d w2,⟨vs,od⟩,Calls.spliced_nil ?_⟩)
 refine PySem.W.kdx_call (knd:=mixKind X.prog X.w) (kvs:=vs) (ep:=ep) (J.ok.hd ca) ⟨_,Heap.get?_push_size _ rfl,rfl,rfl⟩ (NR.push _) (by omega) fun h' tk acc c bs keep hS hl hG hacc=>?_
 obtain ⟨G',k1,k2,k3,k4,k5,k6,J3⟩:=items_laid (tk:=tk) J2 w1 kv keep hS hl hG hacc
 exact ⟨.ref _,G',J3,rfl,k G' _ _ k1 k2 k3 k4 k5 k6⟩
end LiI
namespace FD
open PySem L2 PyProof.Rows PySem.Spec
def c9(ks:List Key)(ds:List Dt):List Dt:=(ks.zip ds).map fun z=>.tup [IW z.1,z.2]
def V9:Dt→Option (List Dt)
 | .dic ks ds=>some (c9 ks ds)
 | _=>none
def Kc(f:Env→Out Dt):Env→Out (List Dt):=fun ρ=>(f ρ).bind fun a=>GI (V9 a)
theorem NS{f:Env→Out Dt}{ρ:Env}:Kc f ρ=(f ρ).bind fun a=>GI (V9 a):=rfl
theorem Jh{κ:KM}{G:Hp}{A:Ad}:∀ {kvs:List (Key × V)} {ds:List Dt} {us:List Addr},Ah κ G A ds (kvs.map (·.2))→Paired (fun (u:Addr) (z:Key × V)=>G u=some (.tup [kV z.1,z.2])) us kvs→(∀ u∈us,¬ A u)→Ah κ G A (c9 (kvs.map (·.1)) ds) (us.map V.ref)
 | [],ds,[],r,.nil,_=>by
  unfold c9
  rw [List.map_nil,List.zip_nil_left]
  exact Ah.nil
 | z :: kvs,[],us,r,_,_=>by
  unfold Ah at r
  exact nomatch r
 | z :: kvs,d :: ds,u :: us,r,.cons h t,hA=>by
  unfold Ah at r
  obtain ⟨v,vs,e,r1,r2⟩:=r
  rw [List.map_cons] at e
  obtain ⟨ev,es⟩:=List.cons.inj e
  subst ev es
  show Ah κ G A (Dt.tup [IW z.1,d] :: c9 (kvs.map (·.1)) ds) (V.ref u :: us.map V.ref)
  refine Ah.cons ?_ (Jh r2 t fun u hu=>hA u (List.mem_cons_of_mem _ hu))
  unfold Rep
  exact ⟨u,_,rfl,.inl ⟨hA u List.mem_cons_self,h⟩,Ah.cons (Q2 _) (Ah.cons r1 Ah.nil)⟩
section
variable {K:PySem.W.Frag} {W:WX} {la:List Nat}
theorem Y9{t:TE}{f:Env→Out Dt}(ha:D3 K W t f la):au K W (LiI.j0 t) (Kc f) la:=by
 intro μ H0 A0 ρ σ H Q s h
 refine ha _ _ _ _ _ _ _ s (h.seq fun a ea h1 v1 H1 s1 r1=>?_)
 clear ea
 obtain ⟨ds,e,q⟩:=B6 h1
 cases a <;> try (cases e; done)
 rename_i ks es
 cases e
 obtain ⟨a,kvs,rfl,g1,g2,g3⟩:=HL r1
 subst g2
 refine ⟨a,kvs,rfl,g1,fun G p us keep hp hu hpu hG hpair=>?_⟩
 refine q p _ G (s1.trans keep) (s1.free hp) hG (Jh ((Ah.fresh hp _ _ g3).same keep) hpair fun u hu'=>?_)
 rintro (z | z)
 ·exact s.Oa (s1.free (hu u hu')) z
 ·exact hpu (z ▸ hu')
end
theorem Pn{X:Cx}{W:WX}{a:Expr}{f:Env→Out Dt}{la:List Nat}{q1 q2 q3 q4:Pos}(ca:X.calm=true)(ha:Bv X W a f la)(gl:Gl X "list")(no:X.mg "list" = none)(b1:attributeBase a "items" X.env (eval a X.env)=eval a X.env:=by rfl)(ln:(q2.endLine == q3.line)=true:=by rfl)
  (st:starEach [.Call (.Attribute a "items" q2) [] [] q3] X.env=(false,eval (.Call (.Attribute a "items" q2) [] [] q3) X.env) :: starEach [] X.env:=by rfl):ZC X W (.Call (.Name "list" q1) [.Call (.Attribute a "items" q2) [] [] q3] [] q4) (Kc f) la:=by
 obtain ⟨t,p,d⟩:=ha
 exact ⟨_,LiI.jc ca p gl no b1 ln st,Y9 d⟩
end FD
namespace FD
open PySem L2 PyProof.Rows PySem.Spec
def FT:List Dt→Option Dt
 | [.dic ks ds]=>some (.dic ks ds)
 | _=>none
theorem ZK{K:PySem.W.Frag}:Uc K (fun xs H Q=>∃ (a:Addr) (kvs:List (Key × V)),xs=[.ref a]∧Rd H a (.dK kvs)∧∀ p,H p=none→Q (.ref p) (upd H p (.dK kvs))) FT:=by
 intro μ H A ds d vs Q ha r e q
 unfold FT at e
 split at e
 ·rename_i ks es
  cases e
  obtain ⟨v,rfl,rr⟩:=Dg r
  obtain ⟨a,kvs,rfl,g1,g2,g3⟩:=HL rr
  refine ⟨a,kvs,rfl,g1,fun p hp=>q _ _ (Same.new hp) ?_⟩
  unfold Rep
  exact ⟨p,kvs,rfl,fun z=>by have:=ha p z; rw [hp] at this; exact this,.inl upd_same,g2,g3.same (Same.new hp)⟩
 ·cases e
def M7(i:Nat)(f:Env→Out (List Dt))(lk:List Nat):Env→SOut:=fun ρ=>IL (f ρ) ρ fun ds=>match ds with
 | [.dic ks es]=>if Dt.E7 es=true then .ok .nx (ρ.set i (some (.od ks es))) else .ok .nx ((frz lk ρ).set i (some (.od ks es)))
 | _=>.bad
section
variable {K:PySem.W.Frag} {W:WX} {la lb lk:List Nat}
theorem VZ{ta:TA}{f:Env→Out (List Dt)}{i:Nat}(ha:Ub K W ta f la):Jc K W (tAsg (tCB (fun xs H Q=>∃ (a:Addr) (kvs:List (Key × V)),xs=[V.ref a]∧Rd H a (.dK kvs)∧∀ p,H p=none→Q (V.ref p) (upd H p (.dK kvs))) ta) (gName i)) (M7 i f la):=by
 intro μ H0 A0 ρ σ H D s h
 unfold M7 at h
 refine ha _ _ _ _ _ _ _ s (A9.st s h fun ds _ h2 vs H1 s1 r1=>?_)
 split at h2
 ·rename_i ks es _
  obtain ⟨v,rfl,rr⟩:=Dg r1
  obtain ⟨a,kvs,rfl,g1,g2,g3⟩:=HL rr
  refine ⟨a,kvs,rfl,g1,fun p hp=>?_⟩
  have hS:Same H (upd H1 p (.dK kvs)):=s1.trans (Same.new hp)
  split at h2
  ·rename_i hpu
   have sg:=s.grow s1
   have r4:=Ah.pure (A':=Av ⟨K,μ⟩ A0 ρ σ []) (fun a z=>sg.Ec z) es _ hpu g3
   exact h2 _ _ _ (Xt.refl _) (s.W6 (i:=i) (lk:=[]) (p:=p) hS (s1.free hp) upd_same g2 ((Ah.fresh hp _ _ r4).same (Same.new hp)))
  ·exact h2 _ _ _ (Xt.refl _) (s.W6 (i:=i) (lk:=la) (p:=p) hS (s1.free hp) upd_same g2 ((Ah.fresh hp _ _ g3).same (Same.new hp)))
 ·exact False.elim h2
end
section
variable {X:Cx} {W:WX} {S:List Nat} {e:Expr} {fs:Env→Out (List Dt)} {gs:Env→XO (List Dt)} {lk:List Nat} {p pos:Pos}
theorem Vu(hg:Gl X "dict")(hm:X.mg "dict" = none)(ha:JN X W [e] fs lk)(he:starEach [e] X.env=(false,eval e X.env) :: starEach [] X.env:=by rfl):Bv X W (.Call (.Name "dict" p) [e] [] pos) (eB FT fs) lk:=by
 obtain ⟨ta,pa,da⟩:=ha
 exact ⟨_,pe_callTy call_dictD hg hm (by decide +kernel) pa (by decide) (by decide) he rfl,XF ZK da⟩
theorem Z2(i:Nat){x:Str}{pos':Pos}(hg:Gl X "dict")(hm:X.mg "dict" = none)(ha:JN X W [e] fs lk)(hN:X.N.Nodup)(he:starEach [e] X.env=(false,eval e X.env) :: starEach [] X.env:=by rfl)(hi:X.N[i]? = some x:=by rfl)(hx:Loc X.env.scope x:=by first | exact Or.inl rfl | exact Or.inr rfl)
  (hs:swapsWith (.Call (.Name "dict" p) [e] [] pos) (some (.Name x pos')) pos.line X.env=pure false:=by rfl) (hf:X.fn x=true∨X.env.scope.names.lookup x=some .local:=by first | exact .inl rfl | exact .inr rfl | assumption) {q:Pos} (hs2:swapsWith (.Call (.Name "dict" p) [e] [] pos) (some (.Name x pos')) q.line X.env=pure false:=by rfl):Nq X W (.Assign [.Name x pos'] (.Call (.Name "dict" p) [e] [] pos) q) (M7 i fs lk):=by
 obtain ⟨ta,pa,da⟩:=ha
 exact ⟨_,ps_set hN hi hx (pe_callTy call_dictD hg hm (by decide +kernel) pa (by decide) (by decide) he rfl) hs2 hf,VZ da⟩
end
end FD
namespace FD
open PySem L2 PyProof.Rows PySem.Spec
section
variable {K:PySem.W.Frag} {W:WX} {S:List Nat} {la lb lk:List Nat}
theorem YE:D3 K W tDNewK (eC (.dic [] [])) []:=by
 intro μ H0 A0 ρ σ H Q s h
 intro p hp
 refine h _ _ (Same.new hp) ?_
 unfold Rep
 exact ⟨p,[],rfl,s.Oa hp,.inl upd_same,rfl,Ah.nil⟩
end
section
variable {X:Cx} {W:WX} {S:List Nat} {a e:Expr} {fs:Env→XO (List Dt)} {lk:List Nat} {p pos:Pos}
theorem bA:Bv X W (.Dict [] [] p) (eC (.dic [] [])) []:=⟨_,pe_dnewK,YE⟩
end
end FD
namespace FD
open PySem L2 L2N PyProof.Rows PySem.Spec
section
variable {X:Cx} {x n:Str} {c:Value} {i:Nat} {body suite:List Stmt} {b₀:Stmt} {more:List ExceptHandler} {np pos pos':Pos} {tb:WX→TS} {ts:Addr→Value→Option Addr→TS}
end
section
variable {K:PySem.W.Frag} {κ:KM} {μ:Mu} {W:WX} {H0 H H1:Hp} {A0:Ad} {ρ:Env} {σ:L2.St} {lk la lb:List Nat}
end
section
variable {X:Cx} {W:WX} {x n:Str} {c:Value} {i:Nat} {body suite:List Stmt} {b₀:Stmt} {more:List ExceptHandler} {np pos pos':Pos} {g:Env→SOut}
end
end FD
namespace FD
open PySem L2 PyProof.Rows PySem.Spec
def V3:List V→Hp→VK→Prop:=fun xs H Q=>∃ (a:Addr) (kvs:List (Key × V)),xs=[.ref a]∧Rd H a (.dK kvs)∧∀ q,H q=none→Q (.ref q) (upd H q (.lst (kvs.map fun kv=>kV kv.1)))
theorem PF{X:Cx}(hc:X.calm=true):CallR X (.type "list") V3:=by
 intro pins s σ H xs us Q I r h
 obtain ⟨p,kvs,e,hk,q⟩:=h
 subst e
 obtain ⟨u,eu,rx⟩:=vals1 r
 subst eu
 obtain rfl:u=Value.ref p:=rx
 obtain ⟨z,lo,vs,rk,hd⟩:=hk.ok I.hok
 obtain ⟨ep,hat⟩:=hd.dictAt
 have hl:kvs.length=vs.length:=Paired.length rk
 refine PySem.W.kdl_call (PySem.W.kdl_dict (knd:=mixKind X.prog X.w) (kvs:=vs) (ep:=ep) lo) (I.ok.hd hc) hat (by rw [← hl]; exact z) fun h' tk acc' c' hkeep hS hacc=>?_
 refine ⟨.ref s.heap.objs.size,upd H s.heap.objs.size (.lst (kvs.map fun kv=>kV kv.1)),I.laid hkeep (Nat.le_refl _) (show ObjOk X.prog X.w _ _ _ (.lst (kvs.map fun kv=>kV kv.1)) from ⟨by rw [List.length_map]; exact z,acc'.toList,c',?_,by rw [Array.toArray_toList]; exact hS⟩),rfl,q _ (I.hok.fresh (Nat.le_refl _))⟩
 have el:acc'.toList.length=acc'.size:=by simp
 refine vals_of_at (by rw [List.length_map,el,hacc.1,hl]) fun j x w h1 h2=>?_
 obtain ⟨k,y,hky,hi⟩:=hacc.2 j w (by rw [← Array.getElem?_toList]; exact h2)
 have e1:(kvs.map (·.1))[j]? = some k:=by rw [KV.keys rk,List.getElem?_map,hky] <;> rfl
 have e2:(kvs.map fun kv=>kV kv.1)[j]? = some (kV k):=by
  rw [show (kvs.map fun kv=>kV kv.1)=(kvs.map (·.1)).map kV from by rw [List.map_map] <;> rfl,List.getElem?_map,e1] <;> rfl
 rw [e2] at h1
 cases h1
 exact keyIs_rel hi
def Cg:List Dt→Option (List Dt)
 | [.dic ks _]=>some (ks.map IW)
 | _=>none
theorem bG{K:PySem.W.Frag}:CaL K V3 Cg:=by
 intro μ H A ds es vs Q r e q
 unfold Cg at e
 split at e
 ·cases e
  obtain ⟨v,rfl,rr⟩:=Dg r
  obtain ⟨a,kvs,rfl,g1,g2,g3⟩:=HL rr
  subst g2
  exact ⟨a,kvs,rfl,g1,fun p hp=>q p _ hp (NU kvs)⟩
 ·cases e
section
variable {X:Cx} {W:WX} {e:Expr} {fs:Env→Out (List Dt)} {lk:List Nat} {p pos:Pos}
theorem HW(hc:X.calm=true)(hg:Gl X "list")(hm:X.mg "list" = none)(ha:JN X W [e] fs lk)(he:starEach [e] X.env=(false,eval e X.env) :: starEach [] X.env:=by rfl):ZC X W (.Call (.Name "list" p) [e] [] pos) (lB Cg fs) lk:=by
 obtain ⟨ta,pa,da⟩:=ha
 exact ⟨_,pe_callTy (PF hc) hg hm boot_list pa (by decide) (by decide) he rfl,g4 bG da⟩
end
end FD
namespace FD
open PySem L2 L2N PyProof.Rows PySem.Spec
abbrev MCl:=Value × Option Nat × (Addr→Value→Option Addr→TS)
inductive HdsA (X:Cx):List ExceptHandler→List MCl→Prop
 | nil:HdsA X [] []
 | plain {x:Str} {c:Value} {ts:Addr→Value→Option Addr→TS} {b₀:Stmt} {suite:List Stmt} {np pos':Pos} {hds:List ExceptHandler} {l:List MCl} (hc:Names X x c)
   (hsu:∀ (a:Addr) (oe:Obj) (cls:Value) (d:Option Addr) (pn:List (Addr × Obj)),L2N.Zn cls d oe→(∃ vs,oe.data=.fields vs)→PSs (X.suite a ((a,oe) :: pn)) (b₀ :: suite) (ts a cls d)) (r:HdsA X hds l):
   HdsA X (.ExceptHandler (some (.Name x np)) none (b₀ :: suite) pos' :: hds) ((c,none,ts) :: l)
 | named {x n:Str} {c:Value} {i:Nat} {ts:Addr→Value→Option Addr→TS} {b₀:Stmt} {suite:List Stmt} {np pos':Pos} {hds:List ExceptHandler} {l:List MCl} (hi:X.N[i]? = some n) (hln:X.env.kindOf n=some .local) (hc:Names X x c)
   (hsu:∀ (a:Addr) (oe:Obj) (cls:Value) (d:Option Addr) (pn:List (Addr × Obj)),L2N.Zn cls d oe→(∃ vs,oe.data=.fields vs)→PSs (X.suite a ((a,oe) :: pn)) (b₀ :: suite) (ts a cls d)) (r:HdsA X hds l):
   HdsA X (.ExceptHandler (some (.Name x np)) (some n) (b₀ :: suite) pos' :: hds) ((c,some i,ts) :: l)
section
variable {X:Cx} {body:List Stmt} {h₀:ExceptHandler} {hds:List ExceptHandler} {l:List MCl} {pos:Pos} {tb:WX→TS} {Wout:WX}
end
abbrev kY:=Value × Option Nat × (Addr→Option Addr→Addr→Env→SOut)
def tsA(K:PySem.W.Frag)(Ds:List Addr)(h:Addr→Option Addr→Addr→Env→SOut):Addr→Value→Option Addr→TS:=fun a cls d D σ H=>∃ C:Addr,cls=.ref C∧C∈Ds∧cS K W0 (h a d C) D σ H
section
variable {K:PySem.W.Frag} {κ:KM} {μ:Mu} {W:WX} {H0 H H1:Hp} {A0:Ad} {ρ:Env} {σ:L2.St} {lk la lb:List Nat}
end
inductive HdsF (X:Cx) (Ds:List Addr):List ExceptHandler→List kY→Prop
 | nil:HdsF X Ds [] []
 | plain {x:Str} {c:Value} {h:Addr→Option Addr→Addr→Env→SOut} {b₀:Stmt} {suite:List Stmt} {np pos':Pos} {hds:List ExceptHandler} {l:List kY} (hc:Names X x c)
   (hsu:∀ (a:Addr) (oe:Obj) (C:Addr) (d:Option Addr) (pn:List (Addr × Obj)),C∈Ds→L2N.Zn (.ref C) d oe→(∃ vs,oe.data=.fields vs)→JM (X.suite a ((a,oe) :: pn)) W0 (b₀ :: suite) (h a d C)) (r:HdsF X Ds hds l):
   HdsF X Ds (.ExceptHandler (some (.Name x np)) none (b₀ :: suite) pos' :: hds) ((c,none,h) :: l)
 | named {x n:Str} {c:Value} (i:Nat) {h:Addr→Option Addr→Addr→Env→SOut} {b₀:Stmt} {suite:List Stmt} {np pos':Pos} {hds:List ExceptHandler} {l:List kY} (hc:Names X x c)
   (hsu:∀ (a:Addr) (oe:Obj) (C:Addr) (d:Option Addr) (pn:List (Addr × Obj)),C∈Ds→L2N.Zn (.ref C) d oe→(∃ vs,oe.data=.fields vs)→JM (X.suite a ((a,oe) :: pn)) W0 (b₀ :: suite) (h a d C)) (r:HdsF X Ds hds l)
   (hi:X.N[i]? = some n:=by rfl) (hln:X.env.kindOf n=some .local:=by rfl):
   HdsF X Ds (.ExceptHandler (some (.Name x np)) (some n) (b₀ :: suite) pos' :: hds) ((c,some i,h) :: l)
section
variable {X:Cx} {W:WX} {body:List Stmt} {h₀:ExceptHandler} {hds:List ExceptHandler} {l:List kY} {pos:Pos} {g:Env→SOut}
theorem HdsF.up{Ds:List Addr}:∀ {hds:List ExceptHandler} {l:List kY},HdsF X Ds hds l→HdsA X hds (l.map fun q=>(q.1,q.2.1,tsA X.K Ds q.2.2))
 | _,_,.nil=>.nil
 | _,_,.plain hc hsu r=>.plain hc (fun a oe cls d pn hz hfl=>⟨fun pins s σ H D I ⟨C,e,hD,hq⟩=>by
   subst e
   exact (hsu a oe C d pn hD hz hfl).NC.run pins s σ H D I hq⟩) r.up
 | _,_,.named i hc hsu r hi hln=>.named hi hln hc (fun a oe cls d pn hz hfl=>⟨fun pins s σ H D I ⟨C,e,hD,hq⟩=>by
   subst e
   exact (hsu a oe C d pn hD hz hfl).NC.run pins s σ H D I hq⟩) r.up
end
end FD
namespace FD
open PySem L2 PyProof.Rows PySem.Spec
def Kg:Env→SOut:=fun _=>.bad
section
variable {X:Cx} {W:WX} {S:List Nat} {st:Stmt} {e o:Expr} {es:List Expr} {fs:Env→Out (List Dt)} {fo:Env→Out Dt} {lk la:List Nat} {p pos apos:Pos} {C:Addr} {φ:List Dt→List Cell→MO} {ψ:List Dt→Out Dt}
theorem Ir:Nq X W st Kg:=⟨fun _ _ _=>False,⟨fun _ _ _ _ _ _ h=>h.elim⟩,fun _ _ _ _ _ _ _ _ h=>h⟩
structure PrC (P:Program) (w:World) (K:PySem.W.Frag) (mg:Str→Option Value) (base:Heap) (k:Nat) (C:Addr) (f:Str) (ψ:List Dt→Out Dt):Prop where
 cls:Cls K C
 ex:∃ p g,PropOf K C f p g∧FnR P w K mg base (L2N.CX P w) k g (OI K ψ)
structure CmC (P:Program) (w:World) (K:PySem.W.Frag) (mg:Str→Option Value) (base:Heap) (k:Nat) (C:Addr) (m:Str) (ψ:List Dt→Out Dt):Prop where
 ex:∃ mc p g,ClX.CRead K C mc∧ClX.CMet K C mc m p g∧FnR P w K mg base (L2N.CX P w) k g (OI K ψ)
end
end FD
namespace PySem
end PySem
namespace L2
open PySem PySem.Spec PyProof.Rows
end L2
namespace FD
open PySem L2 PyProof.Rows PySem.Spec
section
variable {K:PySem.W.Frag} {κ:KM} {W:WX} {la lk:List Nat} {A0:Ad}
end
end FD
namespace FD
open PySem L2 PyProof.Rows PySem.Spec
section
variable {K:PySem.W.Frag} {κ:KM} {μ:Mu} {W:WX} {H0 H H1:Hp} {A0:Ad} {ρ:Env} {σ:L2.St} {lk la lb:List Nat}
end
section
variable {X:Cx} {W:WX} {a b e:Expr} {es:List Expr} {fs:Env→Out (List Dt)} {fa fb f fk:Env→Out Dt} {la lb lk ls:List Nat} {pos p p1 p2 p3:Pos} {j:Nat}
end
def YW(u:Dt→Env→Option Env)(t:Env→Out Bool)(fk fv:Env→Out Dt)(ρ:Env):List Dt→List Key→List Dt→Out (List Key × List Dt)
 | [],ks,vs=>.ok (ks,vs)
 | d :: ds,ks,vs=>(GI (u d ρ)).bind fun ρ1=>(OC (t ρ1)).bind fun b=>if b=true then (OC (fk ρ1)).bind fun k=>(OC (fv ρ1)).bind fun v=>(GI (keyD k)).bind fun k=>YW u t fk fv ρ ds (E2 ks k) (Df ks vs k v) else YW u t fk fv ρ ds ks vs
def jK(u:Dt→Env→Option Env)(vs:List Nat)(t:Env→Out Bool)(fk fv:Env→Out Dt)(src:Env→Out (List Dt))(lk:List Nat):Env→Out Dt:=fun ρ=>(src ρ).bind fun ds=>if ds.length≤16777216 then (YW u t fk fv (BJ (frz lk ρ) vs) ds [] []).bind fun p=>.ok (.dic p.1 p.2) else .bad
theorem NI{u:Dt→Env→Option Env}{vs:List Nat}{t:Env→Out Bool}{fk fv:Env→Out Dt}{src:Env→Out (List Dt)}{lk:List Nat}{ρ:Env}:jK u vs t fk fv src lk ρ=(src ρ).bind fun ds=>if ds.length≤16777216 then (YW u t fk fv (BJ (frz lk ρ) vs) ds [] []).bind fun p=>.ok (.dic p.1 p.2) else .bad:=rfl
theorem N4{u:Dt→Env→Option Env}{t:Env→Out Bool}{fk fv:Env→Out Dt}{ρ:Env}:∀ {ds:List Dt} {ks:List Key} {vs:List Dt} {x:Exn},YW u t fk fv ρ ds ks vs=.exc x→False
 | [],_,_,x,z=>by cases z
 | d :: ds,ks,vs,x,z=>by
  unfold YW at z
  cases e1:u d ρ with
  | none=>rw [e1] at z; cases z
  | some ρ1=>
   rw [e1] at z
   simp only [B3,Out.AA] at z
   cases e2:t ρ1 with
   | exc x'=>rw [e2] at z; cases z
   | bad=>rw [e2] at z; cases z
   | ok b=>
    rw [e2] at z
    simp only [Cf,Out.AA] at z
    split at z
    ·cases e3:fk ρ1 with
     | exc x'=>rw [e3] at z; cases z
     | bad=>rw [e3] at z; cases z
     | ok k=>
      rw [e3] at z
      simp only [Cf,Out.AA] at z
      cases e4:fv ρ1 with
      | exc x'=>rw [e4] at z; cases z
      | bad=>rw [e4] at z; cases z
      | ok v=>
       rw [e4] at z
       simp only [Cf,Out.AA] at z
       cases e5:keyD k with
       | none=>rw [e5] at z; cases z
       | some k=>
        rw [e5] at z
        exact N4 z
    ·exact N4 z
section
variable {K:PySem.W.Frag} {κ:KM} {μ:Mu} {W:WX} {H0 H H1 H2:Hp} {A A0:Ad} {ρ:Env} {σ:L2.St} {lk la lb:List Nat}
theorem StOk.ib(s:StOk κ H0 A0 H ρ σ){D:Addr}{acc:List (Key × V)}(hD:H D=none)(hs:Same H H2)(h2:H2 D=some (.dK acc)):StOk κ (Bs κ H2 ρ σ []) (fun a=>A0 a∨a=D) H2 ρ σ:=by
 have nD:¬ Ow κ ρ σ [] D:=fun ⟨i,_,h⟩=>by
  obtain ⟨⟨o,e⟩,_⟩:=s.Ci h
  rw [hD] at e
  cases e
 have av:∀ a,Av κ (fun a=>A0 a∨a=D) ρ σ [] a→Av κ A0 ρ σ [] a∨H a=none:=by
  rintro a ((z | z) | z)
  ·exact .inl (.inl z)
  ·rw [z]
   exact .inr hD
  ·exact .inl (.inr z)
 have nA:∀ a,A0 a→¬ Ow κ ρ σ [] a:=fun a z q=>by
  have q1:=s.a0 a z
  rw [s.RX q] at q1
  exact q1
 refine ⟨Jn,fun a z=>?_,s.len,fun i l e=>FA.gen (F:=κ.K) (m:=κ.mu) (m':=κ.mu) (Xt.refl _) (fun _=>rfl) (fun a o _ q=>hs a o q) av (fun a _ o q=>hs a o q) (fun a ho _=>bb ⟨i,(fun z=>nomatch z),l,e,ho⟩) (s.lo i l e),s.ap,s.one,s.nm⟩
 rcases z with z | z
 ·rw [I5 (nA a z)]
  exact (s.grow hs).Ec (lk:=[]) (.inl z)
 ·subst z
  rw [I5 nD,h2]
  exact True.intro
theorem jE{wi:TI}{g:TG}{tt:TT}{tk te:TE}{u:Dt→Env→Option Env}{S vs lt lq le:List Nat}{t:Env→Out Bool}{fk f:Env→Out Dt}{src:Env→Out (List Dt)}(hi:gH K W wi src lk)(hg:Zq K g u S)(hS:∀ i∈S,i∈vs)
  (ht:TY K W0 tt t lt) (hk:D3 K W0 tk fk lq) (he:D3 K W0 te f le):D3 K W (tDc wi g tt tk te vs) (jK u vs t fk f src lk) (lk ++ (le ++ vs)):=by
 intro μ H0 A0 ρ σ H Q s h
 refine hi _ _ _ _ _ _ _ s (h.seq fun ds _ h1 J H1 s1 w=>?_)
 intro D hD
 split at h1
 case isFalse=>exact False.elim h1
 rename_i hz
 obtain ⟨sB,hB⟩:=s.rebase s1 lk
 have sW:=sB.Uh vs
 cases eo:YW u t fk f (BJ (frz lk ρ) vs) ds [] [] with
 | exc x=>exact (N4 eo).elim
 | bad=>rw [eo] at h1; exact False.elim h1
 | ok res=>
  rw [eo] at h1
  simp only [Out.AA] at h1
  have avs:∀ a,Av ⟨K,μ⟩ A0 ρ σ (lk ++ (le ++ vs)) a→Av ⟨K,μ⟩ A0 (frz lk ρ) σ (le ++ vs) a:=by
   rintro a (z | ⟨i,n,l,e,ho⟩)
   ·exact .inl z
   ·refine .inr ⟨i,fun q=>n (List.mem_append_right _ q),l,?_,ho⟩
    exact Jg.frz_ne (fun q=>n (List.mem_append_left _ q)) e
  refine ⟨fun i m H'=>m + i=ds.length∧Same H1 H'∧∃ (acc:List (Key × V)) (vals:List Dt),H' D=some (.dK acc)∧acc.length≤i∧YW u t fk f (BJ (frz lk ρ) vs) (ds.drop i) (acc.map (·.1)) vals=.ok res ∧
   Ah ⟨K,μ⟩ H' (fun a=>Av ⟨K,μ⟩ A0 ρ σ (lk ++ (le ++ vs)) a∨a=D) vals (acc.map (·.2)),⟨ds.length,by omega,Same.new hD,[],[],upd_same,Nat.le_refl 0,eo,Ah.nil⟩,?_⟩
  rintro i m H2 ⟨hm,s2,acc,vals,hacc,hlen,e,racc⟩
  have sBW:Same (Bs ⟨K,μ⟩ H1 ρ σ lk) H2:=Jn.trans s2
  by_cases hlt:i < ds.length
  ·have hd:ds.drop i=ds[i] :: ds.drop (i + 1):=List.drop_eq_getElem_cons hlt
   rw [hd] at e
   unfold YW at e
   refine .inr ⟨w.go i H2 sBW hlt,fun H'=>Same H1 H'∧∃ (acc:List (Key × V)) (vals:List Dt),H' D=some (.dK acc)∧acc.length≤i + 1∧YW u t fk f (BJ (frz lk ρ) vs) (ds.drop (i + 1)) (acc.map (·.1)) vals=.ok res ∧
    Ah ⟨K,μ⟩ H' (fun a=>Av ⟨K,μ⟩ A0 ρ σ (lk ++ (le ++ vs)) a∨a=D) vals (acc.map (·.2)),fun H' q=>⟨m - 1,by omega,by omega,q⟩,fun x H3 y=>?_⟩
   obtain ⟨s3,r3⟩:=w.yld i H2 x H3 ds[i] sBW y (List.getElem?_eq_getElem hlt)
   have hacc3:=s3 _ _ hacc
   have sD:=sW.ib hD (s2.trans s3) hacc3
   cases eu:u ds[i] (BJ (frz lk ρ) vs) with
   | none=>rw [eu] at e; cases e
   | some ρ1=>
    rw [eu] at e
    simp only [B3,Out.AA] at e
    refine hg _ _ _ _ _ _ _ _ _ _ sD (r3 _ fun a z=>?_) eu fun σ4 s4 m4 o4=>⟨?_,?_⟩
    ·rcases z with (z | z) | ⟨j,n,z⟩
     ·refine ⟨.inl z,?_⟩
      have q4:=(s.grow s1).Ec (lk:=[]) (a:=a) (.inl z)
      cases q5:H1 a with
      | none=>rw [q5] at q4; exact False.elim q4
      | some o'=>
       intro z2
       have q6:=s2 a o' q5
       rw [z2] at q6
       cases q6
     ·subst z
      refine ⟨.inr ?_,by rw [hacc]; intro z; cases z⟩
      show Bs ⟨K,μ⟩ H1 ρ σ lk a=none
      unfold Bs
      split
      ·rfl
      ·exact hD
     ·obtain ⟨z1,_⟩:=aQ z
      refine ⟨.inr (sB.Ci z1).2,?_⟩
      obtain ⟨⟨o,q⟩,_⟩:=sB.Ci z1
      rw [s2 _ _ q]
      intro z
      cases z
    ·have wl:wipe σ4 vs=wipe (wipe σ vs) vs:=by
      apply List.ext_getElem?
      intro j
      by_cases hj:j∈vs
      ·by_cases hl:j < σ4.length
       ·rw [Jg.wipe_mem hj hl,Jg.wipe_mem hj (by rw [← o4.1]; exact hl)]
       ·rw [List.getElem?_eq_none (by rw [wipe_length]; omega),List.getElem?_eq_none (by rw [wipe_length,← o4.1]; omega)]
      ·rw [EF hj,EF hj]
       exact (o4.2 j fun z=>hj (hS j z)).1
     rw [wl,Jg.wipe_idem]
    ·refine ht _ _ _ _ _ _ _ s4 ?_
     cases et:t ρ1 with
     | exc x'=>rw [et] at e; cases e
     | bad=>rw [et] at e; cases e
     | ok b=>
      rw [et] at e
      simp only [Cf,Out.AA] at e
      intro H4 s5
      cases b with
      | false=>
       simp only [Bool.false_eq_true,if_false] at e ⊢
       exact ⟨(s2.trans s3).trans s5,acc,vals,s5 _ _ hacc3,by omega,e,(racc.same s3).same s5⟩
      | true=>
       simp only [if_true] at e ⊢
       refine hk _ _ _ _ _ _ _ (s4.grow s5) ?_
       cases ek:fk ρ1 with
       | exc x'=>rw [ek] at e; cases e
       | bad=>rw [ek] at e; cases e
       | ok y=>
        rw [ek] at e
        simp only [Cf,Out.AA] at e
        intro v6 H6 s6 r6
        refine he _ _ _ _ _ _ _ ((s4.grow s5).grow s6) ?_
        cases ef:f ρ1 with
        | exc x'=>rw [ef] at e; cases e
        | bad=>rw [ef] at e; cases e
        | ok z=>
         rw [ef] at e
         simp only [Cf,Out.AA] at e
         cases ey:keyD y with
         | none=>rw [ey] at e; cases e
         | some k=>
          rw [ey] at e
          simp only [B3,Out.AA] at e
          intro v7 H7 s7 r7
          have hD7:=s7 _ _ (s6 _ _ (s5 _ _ hacc3))
          have ev:=JT ey r6
          refine ⟨acc,k,ev,hD7,by rw [sizeLine_eq]; omega,fun a o q=>?_,putK acc k v7,Df (acc.map (·.1)) vals k z,upd_same,?_,?_,?_⟩
          ·rw [upd_ne (ne_of_none q hD)]
           exact s7 _ _ (s6 _ _ (s5 _ _ (s3 _ _ (s2 _ _ q))))
          ·have:=length_putK acc k v7
           omega
          ·rw [Lb]
           exact e
          ·have keep:∀ a o,¬ (Av ⟨K,μ⟩ A0 ρ σ (lk ++ (le ++ vs)) a∨a=D)→H7 a=some o→upd H7 D (.dK (putK acc k v7)) a=some o:=fun a o n q=>by
            rw [upd_ne fun z=>n (.inr z)]
            exact q
           refine Ah.mono keep (fun a z=>z) _ _ (K9 (r7.BZ fun a z=>?_) ((((racc.same s3).same s5).same s6).same s7))
           rcases z with z | z
           ·rcases avs a z with z | ⟨j,n,l,e1,ho⟩
            ·exact .inl (.inl z)
            ·have nv:j∉vs:=fun q=>n (List.mem_append_right _ q)
             have nS:j∉S:=fun q=>nv (hS j q)
             refine .inr ⟨j,fun q=>n (List.mem_append_left _ q),l,?_,?_⟩
             ·rw [(o4.2 j nS).2,Ku nv]
              exact e1
             ·rw [(o4.2 j nS).1,EF nv]
              exact ho
           ·exact .inl (.inr z)
  ·have e1:i=ds.length:=by omega
   subst e1
   rw [List.drop_length] at e
   have er:res=(acc.map (·.1),vals):=by
    have e':(Out.ok (acc.map (·.1),vals):Out (List Key × List Dt))=.ok res:=e
    injection e' with e'
    exact e'.symm
   subst er
   refine .inl ⟨w.stop H2 sBW,?_⟩
   refine h1 (.ref D) H2 (s1.trans s2) ?_
   unfold Rep
   exact ⟨D,acc,rfl,fun z=>(s.grow s1).Oa hD z,.inl hacc,rfl,racc.BZ fun a z=>.inl z⟩
end
section
variable {X:Cx} {W:WX} {e:Expr} {es:List Expr} {fk f:Env→Out Dt} {t:Env→Out Bool} {u:Dt→Env→Option Env} {S lk lt lq le:List Nat}
end
end FD
namespace FD
open PySem L2 PyProof.Rows PySem.Spec
section
variable {X:Cx} {W:WX} {S:List Nat} {a b:Expr} {fs:Env→XO (List Dt)} {lk:List Nat} {p pos:Pos}
end
end FD
namespace FD
open PySem L2 PyProof.Rows PySem.Spec
section
variable {prog:Program} {w:World} {A:Around} {R:Result→Shared→Prop} {I:Addr} {fp wr:List Addr} {G:Array GenState→Array GenState→Prop} {n:Nat} {P:Nat→Value→Prop} {St:Nat→Shared→Prop}
end
section
variable {prog:Program} {w:World} {A:Around} {E:Value→Shared→Prop} {s:Shared}
end
section
variable {X:Cx} {W:WX} {a:Expr} {ta:TE} {f:Env→Out Dt} {la:List Nat} {p p2 q pos:Pos}
end
end FD
namespace FD
open PySem L2 PyProof.Rows PySem.Spec
section
variable {K:PySem.W.Frag} {W:WX} {la lb lk:List Nat}
end
section
variable {X:Cx} {W:WX} {e:Expr} {f:Env→Out Dt} {lk:List Nat} {pos p p1 p2 p3:Pos}
end
end FD
namespace FD
open PySem L2 PyProof.Rows PySem.Spec
section
variable {K:PySem.W.Frag} {W:WX} {la lb lk:List Nat}
end
end FD
namespace PySem.SeqAt
open AutoSeq1 (wpAny_loadPart')
open MeetsSeq MeetsSeq2 MeetsSeq3 SeqRoads2
end PySem.SeqAt
namespace FD
open PySem L2 PyProof.Rows PySem.Spec
section
variable {X:Cx} {W:WX} {e o a b:Expr} {fs:Env→Out (List Dt)} {f fa fb:Env→Out Dt} {lk la lb:List Nat} {p pos apos:Pos} {L:Ly} {k j:Nat} {ta tb:TE}
end
end FD
namespace FD
open PySem L2 PyProof.Rows PySem.Spec
section
variable {X:Cx} {W:WX} {e o a b:Expr} {fs:Env→Out (List Dt)} {f fa fb:Env→Out Dt} {lk la lb:List Nat} {p pos apos:Pos} {L:Ly} {k j:Nat} {ta tb:TE}
end
end FD
namespace FD
open PySem L2 PyProof.Rows PySem.Spec
section
variable {X:Cx} {W:WX} {e o a b:Expr} {fs:Env→Out (List Dt)} {f fa fb:Env→Out Dt} {lk la lb:List Nat} {p pos apos:Pos} {L:Ly} {k j:Nat} {ta tb:TE}
end
end FD
namespace FD
open PySem L2 PyProof.Rows PySem.Spec
def gE(K:PySem.W.Frag)(L:Ly):List V→Hp→VK→Prop:=fun xs H Q=>∃ C ψ a dx fs,(C,ψ)∈L∧xs=[.ref a]∧H a=some (.ins C dx fs)∧OI K ψ [.ref a] H (fun v H'=>∃ n:Int,v=.int n∧(0≤n∧n < 2 ^ 63)∧Q v H') (fun _ _ _=>False)
def Xr:Out Dt→Out Dt
 | .ok (.int n)=>if 0≤n∧n < 2 ^ 63 then .ok (.int n) else .bad
 | _=>.bad
def SA(L:Ly)(fs:Env→Out (List Dt)):Env→Out Dt:=fun ρ=>(fs ρ).bind fun as=>match as with
 | [.obj C ns ds]=>(match L.lookup C with
  | some ψ=>Xr (ψ [.obj C ns ds])
  | none=>.bad)
 | _=>.bad
section
variable {X:Cx} {W:WX} {e o a b:Expr} {fs:Env→Out (List Dt)} {f fa fb:Env→Out Dt} {lk la lb:List Nat} {p pos apos:Pos} {L:Ly} {k j:Nat} {ta tb:TE}
theorem YA(hL:∀ q∈L,MeC X.prog X.w X.K X.mg X.base k q.1 "__len__" q.2)(hr:Room j X.A)(hk:k + 1≤j):CallR X (.builtin "len") (gE X.K L):=by
 intro pins s σ H xs us Q I rv ⟨C,ψ,a',dx,fs,hm,ex,ea,q⟩
 subst ex
 obtain ⟨u,rfl,ru⟩:∃ u,us=[u]∧RelV (.ref a') u:=by
  cases rv with
  | cons r1 r2=>cases r2; exact ⟨_,rfl,r1⟩
 obtain rfl:u=Value.ref a':=ru
 have hr1:Room k X.A.in1:=(hr.mono hk).in1
 have mc:=hL _ hm
 obtain ⟨f,hme,Fn⟩:=mc.ex
 obtain ⟨mA,J,_⟩:=ins_get I.hok ea
 obtain ⟨od,J,_⟩:=J.look
 obtain ⟨m,hF⟩:=I.fr
 refine PySem.W.len_K hF I.ok.mod.kin J hme.at_ hme.fn ?_
 refine wpAny_call (codeAny_mono (Fn X.A.in1 X.stack s H [.ref a'] [.ref a'] _ (WE W0 σ) hr1 I.env0.in1 (.cons rfl .nil) q) fun r s' hq=>?_)
 cases r with
 | error er=>exact False.elim (L2N.passAt (X:=X.nox) takes0 σ pins H s er s' (I.wish _) hq)
 | ok fl=>
  cases fl with
  | ret w=>
   obtain ⟨v,H'',I3,rv,n,rfl,hn,q3⟩:=I.after hq
   obtain ⟨t,rfl⟩:=rv
   exact ⟨hn,.int n,H'',I3.tok _,⟨_,rfl⟩,q3⟩
  | next=>exact False.elim hq
  | brk=>exact False.elim hq
  | cont=>exact False.elim hq
theorem ao{K:PySem.W.Frag}{ta:TA}(ha:Ub K W ta fs lk):D3 K W (tCB (gE K L) ta) (SA L fs) []:=by
 intro μ H0 A0 ρ σ H Q s h
 refine ha _ _ _ _ _ _ _ s (h.seq fun ds hd h1 vs H1 s1 r1=>?_)
 clear hd
 cases ds with
 | nil=>exact False.elim h1
 | cons d t=>
  cases t with
  | cons _ _=>cases d <;> exact False.elim h1
  | nil=>
   cases d <;> try (exact False.elim h1)
   rename_i C ns ds
   simp only at h1
   cases el:L.lookup C with
   | none=>rw [el] at h1; exact False.elim h1
   | some ψ=>
    rw [el] at h1
    simp only at h1
    have r1':=r1
    obtain ⟨v,rfl,rr⟩:=Dg r1
    unfold Rep at rr
    obtain ⟨a,dx,fl,rfl,_,h3,_,_⟩:=rr
    refine ⟨C,ψ,a,dx,fl,lookup_mem el,rfl,h3,_,Av ⟨K,μ⟩ A0 ρ σ lk,μ,r1',fun a z=>(s.grow s1).Ec z,?_⟩
    unfold LB
    cases eo:ψ [Dt.obj C ns ds] with
    | ok d=>
     rw [eo] at h1
     cases d <;> try (exact False.elim h1)
     rename_i y
     unfold Xr at h1
     simp only at h1
     by_cases hy:0≤y∧y < 2 ^ 63
     ·rw [if_pos hy] at h1
      intro v H' s' r
      obtain rfl:v=.int y:=r
      exact ⟨y,rfl,hy,h1 (.int y) H' (s1.trans s') rfl⟩
     ·rw [if_neg hy] at h1
      exact False.elim h1
    | exc x=>rw [eo] at h1; exact False.elim h1
    | bad=>rw [eo] at h1; exact False.elim h1
theorem e9(hL:∀ q∈L,MeC X.prog X.w X.K X.mg X.base k q.1 "__len__" q.2)(hr:Room j X.A)(hk:k + 1≤j)(hg:Gl X "len")(hm:X.mg "len" = none)(ha:JN X W [e] fs lk)(he:starEach [e] X.env=(false,eval e X.env) :: starEach [] X.env:=by rfl):Bv X W (.Call (.Name "len" p) [e] [] pos) (SA L fs) []:=by
 obtain ⟨ta,pa,da⟩:=ha
 exact ⟨_,pe_callB (YA hL hr hk) hg hm boot_len pa (by decide) (by decide) he rfl,ao da⟩
end
end FD
namespace FD
open PySem L2 PyProof.Rows PySem.Spec
def Mb(L:Ly)(ng:Bool)(fa fb:Env→Out Dt):Env→Out Dt:=fun ρ=>(fa ρ).bind fun a=>(fb ρ).bind fun b=>match b with
 | .obj C ns ds=>(match L.lookup C with
  | some ψ=>(match ψ [.obj C ns ds,a] with
   | .ok (.bl c)=>.ok (.bl (xor ng c))
   | _=>.bad)
  | none=>.bad)
 | _=>.bad
def kI(K:PySem.W.Frag)(L:Ly)(ng:Bool)(ta tb:TE):TE:=fun σ H Q=>ta σ H fun x H1=>tb σ H1 fun y H2=>∃ C ψ a dx fs,(C,ψ)∈L∧y=.ref a∧H2 a=some (.ins C dx fs)∧OI K ψ [y,x] H2 (fun v H'=>∃ b,v=.bl b∧Q (.bl (xor ng b)) H') (fun _ _ _=>False)
section
variable {X:Cx} {W:WX} {e o a b:Expr} {fs:Env→Out (List Dt)} {f fa fb:Env→Out Dt} {lk la lb:List Nat} {p pos apos:Pos} {L:Ly} {k j:Nat} {ta tb:TE}
theorem jF(hL:∀ q∈L,MeC X.prog X.w X.K X.mg X.base k q.1 "__contains__" q.2)(hr:Room j X.A)(hk:k≤j)(ha:PE X a ta)(hb:PE X b tb)(ng:Bool){op:CmpOp}(ho:op=if ng then .NotIn else .In):PC X op a b (kI X.K L ng ta tb):=by
 refine ⟨fun pins s σ H Q I h=>?_⟩
 refine thn (ha.run pins s σ H _ I h) fun v s1 ⟨x,H1,I1,rx,q1⟩=>thn (hb.run pins s1 σ H1 _ I1 q1) fun u s2 ⟨y,H2,I2,ry,C,ψ,p,dx,fs,hm,ex,ep,q2⟩=>?_
 subst ex
 obtain rfl:u=Value.ref p:=ry
 have mc:=hL _ hm
 obtain ⟨f,hme,F⟩:=mc.ex
 obtain ⟨mA,J,_⟩:=ins_get I2.hok ep
 obtain ⟨od,J,_⟩:=J.look
 obtain ⟨m,hF⟩:=I2.fr
 have hcall:wpAny (model X.prog X.w) X.A (call (.ref f) [.ref p,v]) (fun r s'=>∃ (b:Bool) (H3:Hp),r=.bool b∧L2.Inv X pins σ H3 s'∧Q (.bl (xor ng b)) H3) X.xe s2:=by
  refine wpAny_call (codeAny_mono (F X.A X.stack s2 H2 [.ref p,v] [.ref p,x] _ (WE W0 σ) (hr.mono hk) I2.env0 (.cons rfl (.cons rx .nil)) q2) fun r s' hq=>?_)
  cases r with
  | error er=>exact False.elim (L2N.passAt (X:=X.nox) takes0 σ pins H2 s2 er s' (I2.wish _) hq)
  | ok fl=>
   cases fl with
   | ret w=>
    obtain ⟨v,H'',I3,rv,n,rfl,q3⟩:=I2.after hq
    obtain rfl:w=Value.bool n:=rv
    exact ⟨n,H'',rfl,I3,q3⟩
   | next=>exact False.elim hq
   | brk=>exact False.elim hq
   | cont=>exact False.elim hq
 cases ng with
 | false=>
  subst ho
  show wpAny (model X.prog X.w) X.A (compareOp .In v (.ref p)) (EP X pins σ Q) X.xe s2
  refine PySem.W.in_K hF I2.ok.mod.kin J hme.at_ hme.fn (wpAny_mono hcall (fun r s3 ⟨b,H3,e,I3,q3⟩=>?_) fun _ _ x=>x)
  subst e
  rw [Bool.false_xor] at q3
  exact wpAny_truthy_bool ⟨.bl b,H3,I3,rfl,q3⟩
 | true=>
  subst ho
  show wpAny (model X.prog X.w) X.A (compareOp .NotIn v (.ref p)) (EP X pins σ Q) X.xe s2
  refine PySem.W.notIn_K hF I2.ok.mod.kin J hme.at_ hme.fn (wpAny_mono hcall (fun r s3 ⟨b,H3,e,I3,q3⟩=>?_) fun _ _ x=>x)
  subst e
  rw [Bool.true_xor] at q3
  exact wpAny_truthy_bool ⟨.bl (!b),H3,I3,rfl,q3⟩
theorem fy{K:PySem.W.Frag}{ng:Bool}(ha:D3 K W ta fa la)(hb:D3 K W tb fb lb):D3 K W (kI K L ng ta tb) (Mb L ng fa fb) []:=by
 intro μ H0 A0 ρ σ H Q s h
 refine ha _ _ _ _ _ _ _ s (h.seq fun x ex h1 v1 H1 s1 r1=>?_)
 refine hb _ _ _ _ _ _ _ (s.grow s1) ((h1.grow s1).seq fun y ey h2 v2 H2 s2 r2=>?_)
 clear ex ey
 cases y <;> try (exact False.elim h2)
 rename_i C ns ds
 simp only at h2
 cases el:L.lookup C with
 | none=>rw [el] at h2; exact False.elim h2
 | some ψ=>
  rw [el] at h2
  simp only at h2
  have r2':=r2
  unfold Rep at r2
  obtain ⟨p,dx,fl,rfl,_,h3,_,_⟩:=r2
  refine ⟨C,ψ,p,dx,fl,lookup_mem el,rfl,h3,[.obj C ns ds,x],Av ⟨K,μ⟩ A0 ρ σ (la ++ lb),μ,Ah.cons (r2'.BZ fun _=>bZ) (Ah.cons ((r1.same s2).BZ fun _=>bf) Ah.nil),fun a z=>(s.grow (s1.trans s2)).Ec z,?_⟩
  unfold LB
  cases eo:ψ [.obj C ns ds,x] with
  | ok d=>
   rw [eo] at h2
   cases d <;> try (exact False.elim h2)
   rename_i b
   intro v H' s' r
   obtain rfl:v=.bl b:=r
   exact ⟨b,rfl,h2 (.bl (xor ng b)) H' ((s1.trans s2).trans s') rfl⟩
  | exc x=>rw [eo] at h2; exact False.elim h2
  | bad=>rw [eo] at h2; exact False.elim h2
theorem dI{ng:Bool}{ρ:Env}{d:Dt}(h:Mb L ng fa fb ρ=.ok d):∃ b,d=.bl b:=by
 unfold Mb at h
 obtain ⟨x,_,h⟩:=Out.Gh h
 obtain ⟨y,_,h⟩:=Out.Gh h
 cases y <;> try (cases h; done)
 simp only at h
 split at h
 ·split at h
  ·cases h; exact ⟨_,rfl⟩
  ·cases h
 ·cases h
theorem Wc(hL:∀ q∈L,MeC X.prog X.w X.K X.mg X.base k q.1 "__contains__" q.2)(hr:Room j X.A)(hk:k≤j)(ha:Bv X W a fa la)(hb:Bv X W b fb lb)(ng:Bool){op:CmpOp}(ho:op=if ng then .NotIn else .In)(h1:behindInMarks op b=false):VP X W (.Compare a [op] [b] pos) (t1 (Mb L ng fa fb) AR) []:=by
 obtain ⟨ta,pa,da⟩:=ha
 obtain ⟨tb,pb,db⟩:=hb
 refine ⟨_,pt_cmp (jF hL hr hk pa pb ng ho) h1,fun μ H0 A0 ρ σ H Q s h=>?_⟩
 refine fy da db _ _ _ _ _ _ _ s (h.seq fun x ex h1 v1 H1 s1 r1=>?_)
 obtain ⟨k,e,q⟩:=B6 h1
 obtain ⟨b,rfl⟩:=dI ex
 obtain rfl:v1=.bl b:=r1
 cases e
 exact ⟨_,rfl,q H1 s1⟩
end
end FD
namespace FD
open PySem L2 PyProof.Rows PySem.Spec
def PD(u:Dt→Env→Option Env)(t:Env→Out Bool)(src1:Env→Out (List Dt))(lk1:List Nat)(u1:Dt→Env→Option Env)(vs1:List Nat)(t1:Env→Out Bool)(f:Env→Out Dt)(ρ:Env):List Dt→Out (List Dt)
 | []=>.ok []
 | d :: ds=>(GI (u d ρ)).bind fun ρ1=>(OC (t ρ1)).bind fun b=>if b=true then (OC (src1 ρ1)).bind fun es=>if es.length≤16777216∧lk1.all (G0 ρ1)=true then (OF u1 t1 f (BJ ρ1 vs1) es).bind fun ys=>(PD u t src1 lk1 u1 vs1 t1 f ρ ds).bind fun r=>.ok (ys ++ r) else .bad
  else PD u t src1 lk1 u1 vs1 t1 f ρ ds
def bU(u:Dt→Env→Option Env)(vs:List Nat)(t:Env→Out Bool)(src1:Env→Out (List Dt))(lk1:List Nat)(u1:Dt→Env→Option Env)(vs1:List Nat)(t1:Env→Out Bool)(f:Env→Out Dt)(src:Env→Out (List Dt))(lk:List Nat):Env→Out (List Dt):=fun ρ=>(src ρ).bind fun ds=>if ds.length≤16777216 then (OC (PD u t src1 lk1 u1 vs1 t1 f (BJ (frz lk ρ) vs) ds)).bind fun res=>if res.length≤16777216 then .ok res else .bad
  else .bad
open Classical in
noncomputable def Bn(κ:KM)(H:Hp)(ρ:Env)(σ:L2.St)(A0:Ad)(lk:List Nat):Hp:=fun a=>if Av κ A0 ρ σ lk a then none else H a
section
variable {K:PySem.W.Frag} {κ:KM} {μ:Mu} {W:WX} {H0 H H1 H2:Hp} {A A0:Ad} {ρ:Env} {σ:L2.St} {lk la lb:List Nat}
theorem Vt{a:Addr}(h:¬ Av κ A0 ρ σ lk a):Bn κ H ρ σ A0 lk a=H a:=by unfold Bn; rw [if_neg h]
theorem gz{a:Addr}(h:Av κ A0 ρ σ lk a):Bn κ H ρ σ A0 lk a=none:=by unfold Bn; rw [if_pos h]
theorem XR:Same (Bn κ H ρ σ A0 lk) H:=fun a o e=>by
 unfold Bn at e
 split at e
 ·cases e
 ·exact e
theorem Ah.inN{ds:List Dt}{vs:List V}(r:Ah κ H (Av κ A0 ρ σ lk) ds vs):Ah κ (Bn κ H ρ σ A0 lk) A0 ds vs:=
 Ah.mono (fun a o n e=>by rw [Vt n]; exact e) (fun a z=>.inl z) ds vs r
def iR(K:PySem.W.Frag)(W:WX)(wi:TI)(f:Env→Out (List Dt))(lk:List Nat):Prop:=
 ∀ (μ:Mu) (H0:Hp) (A0:Ad) (ρ:Env) (σ:L2.St) (H:Hp) (R:It→Hp→Prop),StOk ⟨K,μ⟩ H0 A0 H ρ σ→DY K W H σ (f ρ) (fun ds=>∀ J H1,Same H H1→Walks ⟨K,μ⟩ (Bn ⟨K,μ⟩ H1 ρ σ A0 lk) A0 J ds→R J H1)→wi σ H R
theorem bL{tl:TE}{f:Env→Out Dt}(ha:D3 K W tl f lk):iR K W (jk K tl) (AD f) lk:=by
 intro μ H0 A0 ρ σ H R s h
 unfold AD at h
 refine ha _ _ _ _ _ _ _ s (h.seq fun d _ h1 v H1 s1 r1=>?_)
 obtain ⟨ds,e,q⟩:=B6 h1
 cases d <;> try (cases e; done)
 ·rename_i z _
  cases e
  have e1:v=.str z:=r1
  subst e1
  refine .inr (.inr ⟨z,rfl,q _ _ s1 ⟨fun i H' _ hi=>?_,fun H' _=>?_,fun i H' x H'' d hs y e=>?_⟩⟩)
  ·simpa [Its] using hi
  ·simp [Its]
  ·obtain ⟨rfl,c,e1,rfl⟩:=y
   refine ⟨Same.refl _,fun A _=>?_⟩
   rw [List.getElem?_map] at e
   have e2:z.cps.toList[i]? = some c:=by simpa using e1
   rw [e2] at e
   cases e
   rfl
 ·rename_i es _
  cases e
  unfold Rep at r1
  obtain ⟨a,vs,rfl,h1',r⟩:=r1
  have hl:∀ H',Same (Bn ⟨K,μ⟩ H1 ρ σ A0 lk) H'→SqT K H' a vs:=fun H' hs=>by
   rcases h1' with ⟨n,e⟩ | h
   ·exact SqT.of (hs _ _ (by rw [Vt n]; exact e))
   ·exact .inr h
  exact .inr (.inl ⟨a,rfl,⟨vs,SqT.Zy h1'⟩,q _ _ s1 (KQ hl r.inN)⟩)
 ·rename_i es _
  cases e
  unfold Rep at r1
  obtain ⟨a,vs,rfl,⟨n,o,e,_⟩,r⟩:=r1
  have hl:∀ H',Same (Bn ⟨K,μ⟩ H1 ρ σ A0 lk) H'→SqT K H' a vs:=fun H' hs=>.inl (.inr ⟨o,hs _ _ (by rw [Vt n]; exact e)⟩)
  exact .inr (.inl ⟨a,rfl,⟨vs,.inl (.inr ⟨o,e⟩)⟩,q _ _ s1 (KQ hl r.inN)⟩)
 ·rename_i es _
  cases e
  unfold Rep at r1
  obtain ⟨a,vs,rfl,n,e,r⟩:=r1
  have hB:Bn ⟨K,μ⟩ H1 ρ σ A0 lk a=some (.lst vs):=by rw [Vt n]; exact e
  exact .inl ⟨a,rfl,⟨vs,SqL.of e⟩,q _ _ s1 (K7 (fun H' hs=>SqL.of (hs _ _ hB)) r.inN)⟩
 ·rename_i es _
  cases e
  unfold Rep at r1
  obtain ⟨a,vs,rfl,h1',r⟩:=r1
  have hl:∀ H',Same (Bn ⟨K,μ⟩ H1 ρ σ A0 lk) H'→SqL K H' a vs:=fun H' hs=>by
   rcases h1' with ⟨n,o,e⟩ | h
   ·exact .inl (.inr ⟨o,hs _ _ (by rw [Vt n]; exact e)⟩)
   ·exact .inr h
  exact .inl ⟨a,rfl,⟨vs,hl H1 XR⟩,q _ _ s1 (K7 hl r.inN)⟩
theorem StOk.atD(s:StOk κ H0 A0 H1 ρ σ){D:Addr}{u:HO}(hD:H1 D=none)(hs:Same H1 H2)(h2:H2 D=some u)(mu:Mut (some u)):StOk κ (upd H0 D u) (fun a=>A0 a∨a=D) H2 ρ σ:=by
 have s':=(s.grow (H':=delD D H2) fun a o e=>by rw [KW fun z=>by subst z; rw [hD] at e; cases e]; exact hs a o e).kr S2 mu
 have e:upd (delD D H2) D u=H2:=by
  funext a
  by_cases h:a=D
  ·subst h; rw [upd_same,h2]
  ·rw [upd_ne h,KW h]
 rw [e] at s'
 exact s'
theorem StOk.reD{D:Addr}{u u':HO}(s:StOk κ (upd H0 D u) (fun a=>A0 a∨a=D) H ρ σ)(h0:H0 D=none)(ha:∀ a,A0 a→Mut (H0 a))(hs:∀ a o,a≠D→H a=some o→H2 a=some o)(h2:H2 D=some u')(mu:Mut (some u')):StOk κ (upd H0 D u') (fun a=>A0 a∨a=D) H2 ρ σ:=
 (s.outD h0 ha).atD S2 (fun a o e=>by
  by_cases h:a=D
  ·subst h; rw [S2] at e; cases e
  ·rw [KW h] at e; exact hs a o h e) h2 mu
theorem iU{i:Nat}{a:Addr}(h:Bw κ ρ σ i a)(hs:G0 ρ i=true):False:=by
 obtain ⟨l,e,ho⟩:=h
 unfold G0 at hs
 rw [e] at hs
 cases l with
 | sh d=>exact ho
 | ol ds=>cases hs
 | od ks ds=>cases hs
 | ot ks ds=>cases hs
 | mh cs=>cases hs
theorem R9{τ:L2.St}{j:Nat}{vs:List Nat}(h:j∈vs)(hl:j < τ.length):(wipe τ vs)[j]? = some none:=by
 induction vs with
 | nil=>cases h
 | cons v vs ih=>
  unfold wipe
  by_cases e:v=j
  ·subst e
   rw [List.getElem?_set_self (by rw [wipe_length]; exact hl)]
  ·rw [List.getElem?_set_ne e]
   rcases List.mem_cons.mp h with z | z
   ·exact absurd z.symm e
   ·exact ih z
theorem wipe_out{τ τ':L2.St}{ρ ρ':Env}{S vs:List Nat}(o:fM S ρ ρ' (wipe τ vs) τ')(hS:∀ i∈S,i∈vs):wipe τ' vs=wipe τ vs:=by
 apply List.ext_getElem?
 intro j
 have hlen:τ'.length=τ.length:=by rw [o.1,wipe_length]
 by_cases hj:j∈vs
 ·by_cases hl:j < τ.length
  ·rw [R9 hj hl,R9 hj (by omega)]
  ·rw [List.getElem?_eq_none (by rw [wipe_length]; omega),List.getElem?_eq_none (by rw [wipe_length]; omega)]
 ·rw [EF hj,(o.2 j fun z=>hj (hS j z)).1]
theorem eS{wi wi1:TI}{g g1:TG}{tt tt1:TT}{te:TE}{u u1:Dt→Env→Option Env}{S S1 vs vs1 lt lt1 lk1 le:List Nat}{t t1:Env→Out Bool}{f:Env→Out Dt}{src src1:Env→Out (List Dt)}(hi:gH K W wi src lk)(hg:Zq K g u S)(hS:∀ i∈S,i∈vs)
  (ht:TY K W0 tt t lt) (hi1:iR K W0 wi1 src1 lk1) (hg1:Zq K g1 u1 S1) (hS1:∀ i∈S1,i∈vs1) (hv:∀ i∈vs1,i∈vs) (ht1:TY K W0 tt1 t1 lt1) (he:D3 K W0 te f le):au K W (tLc2 wi g tt wi1 g1 tt1 te vs vs1) (bU u vs t src1 lk1 u1 vs1 t1 f src lk) (lk ++ (le ++ vs)):=by
 intro μ H0 A0 ρ σ H Q s h
 refine hi _ _ _ _ _ _ _ s (h.seq fun ds _ h1 J H1 s1 w=>?_)
 intro D hD
 split at h1
 case isFalse=>exact False.elim h1
 rename_i hz
 obtain ⟨sB,hB⟩:=s.rebase s1 lk
 have sW:=sB.Uh vs
 have hBD:Bs ⟨K,μ⟩ H1 ρ σ lk D=none:=by
  unfold Bs
  split
  ·rfl
  ·exact hD
 cases eo:PD u t src1 lk1 u1 vs1 t1 f (BJ (frz lk ρ) vs) ds with
 | exc x=>rw [eo] at h1; exact False.elim h1
 | bad=>rw [eo] at h1; exact False.elim h1
 | ok res=>
  rw [eo] at h1
  simp only [Cf,Out.AA] at h1
  by_cases hres0:res.length≤16777216
  case neg=>rw [if_neg hres0] at h1; exact False.elim h1
  rw [if_pos hres0] at h1
  have avs:∀ a,Av ⟨K,μ⟩ A0 ρ σ (lk ++ (le ++ vs)) a→Av ⟨K,μ⟩ A0 (frz lk ρ) σ (le ++ vs) a:=by
   rintro a (z | ⟨i,n,l,e,ho⟩)
   ·exact .inl z
   ·refine .inr ⟨i,fun q=>n (List.mem_append_right _ q),l,?_,ho⟩
    exact Jg.frz_ne (fun q=>n (List.mem_append_left _ q)) e
  refine ⟨fun i m H'=>m + i=ds.length∧Same H1 H'∧∃ (done todo:List Dt) (acc:List V),H' D=some (.lst acc)∧PD u t src1 lk1 u1 vs1 t1 f (BJ (frz lk ρ) vs) (ds.drop i)=.ok todo∧done ++ todo=res ∧
   Ah ⟨K,μ⟩ H' (fun a=>Av ⟨K,μ⟩ A0 ρ σ (lk ++ (le ++ vs)) a∨a=D) done acc,⟨ds.length,by omega,Same.new hD,[],res,[],upd_same,eo,rfl,Ah.nil⟩,?_⟩
  rintro i m H2 ⟨hm,s2,done,todo,acc,hacc,e,hres,racc⟩
  have sBW:Same (Bs ⟨K,μ⟩ H1 ρ σ lk) H2:=Jn.trans s2
  by_cases hlt:i < ds.length
  ·have hd:ds.drop i=ds[i] :: ds.drop (i + 1):=List.drop_eq_getElem_cons hlt
   rw [hd] at e
   unfold PD at e
   refine .inr ⟨w.go i H2 sBW hlt,fun H'=>Same H1 H'∧∃ (done todo:List Dt) (acc:List V),H' D=some (.lst acc)∧PD u t src1 lk1 u1 vs1 t1 f (BJ (frz lk ρ) vs) (ds.drop (i + 1))=.ok todo∧done ++ todo=res ∧
    Ah ⟨K,μ⟩ H' (fun a=>Av ⟨K,μ⟩ A0 ρ σ (lk ++ (le ++ vs)) a∨a=D) done acc,fun H' q=>⟨m - 1,by omega,by omega,q⟩,fun x H3 y=>?_⟩
   obtain ⟨s3,r3⟩:=w.yld i H2 x H3 ds[i] sBW y (List.getElem?_eq_getElem hlt)
   have hacc3:=s3 _ _ hacc
   have sD:=sW.atD (u:=.lst acc) hD (s2.trans s3) hacc3 True.intro
   cases eu:u ds[i] (BJ (frz lk ρ) vs) with
   | none=>rw [eu] at e; cases e
   | some ρ1=>
    rw [eu] at e
    simp only [B3,Out.AA] at e
    refine hg _ _ _ _ _ _ _ _ _ _ sD (r3 _ fun a z=>?_) eu fun σ4 s4 m4 o4=>⟨wipe_out o4 hS,?_⟩
    ·rcases z with (z | z) | ⟨j,n,z⟩
     ·refine ⟨.inl z,?_⟩
      intro z2
      have q4:=(s.grow s1).Ec (lk:=[]) (a:=a) (.inl z)
      cases q5:H1 a with
      | none=>rw [q5] at q4; exact q4
      | some o'=>
       have q6:=s2 a o' q5
       rw [z2] at q6
       cases q6
     ·subst z
      exact ⟨.inr hBD,by rw [hacc]; intro z; cases z⟩
     ·obtain ⟨z1,_⟩:=aQ z
      refine ⟨.inr ?_,?_⟩
      ·exact (sB.Ci z1).2
      ·obtain ⟨⟨o,q⟩,_⟩:=sB.Ci z1
       rw [s2 _ _ q]
       intro z
       cases z
    ·refine ht _ _ _ _ _ _ _ s4 ?_
     cases et:t ρ1 with
     | exc x'=>rw [et] at e; cases e
     | bad=>rw [et] at e; cases e
     | ok b=>
      rw [et] at e
      simp only [Cf,Out.AA] at e
      intro H4 s5
      cases b with
      | false=>
       simp only [Bool.false_eq_true,if_false] at e ⊢
       exact ⟨(s2.trans s3).trans s5,done,todo,acc,s5 _ _ hacc3,e,hres,(racc.same s3).same s5⟩
      | true=>
       simp only [if_true] at e ⊢
       refine hi1 _ _ _ _ _ _ _ (s4.grow s5) ?_
       cases es1:src1 ρ1 with
       | exc x'=>rw [es1] at e; cases e
       | bad=>rw [es1] at e; cases e
       | ok es=>
        rw [es1] at e
        simp only [Cf,Out.AA] at e
        by_cases hsh:es.length≤16777216∧lk1.all (G0 ρ1)=true
        case neg=>rw [if_neg hsh] at e; cases e
        rw [if_pos hsh] at e
        obtain ⟨hes,hsh⟩:=hsh
        cases ey:OF u1 t1 f (BJ ρ1 vs1) es with
        | exc x'=>rw [ey] at e; cases e
        | bad=>rw [ey] at e; cases e
        | ok ys=>
         rw [ey] at e
         simp only [Out.AA] at e
         cases er:PD u t src1 lk1 u1 vs1 t1 f (BJ (frz lk ρ) vs) (ds.drop (i + 1)) with
         | exc x'=>rw [er] at e; cases e
         | bad=>rw [er] at e; cases e
         | ok r=>
          rw [er] at e
          have eyr:ys ++ r=todo:=by
           have e':(Out.ok (ys ++ r):Out (List Dt))=.ok todo:=e
           injection e'
          intro J1 H5 s6 w1
          have hacc5:=s6 _ _ (s5 _ _ hacc3)
          have s45:=(s4.grow s5).grow s6
          refine ⟨fun j k H'=>k + j=es.length∧(∀ a o,a≠D→H5 a=some o→H' a=some o)∧∃ (done1 todo1:List Dt) (acc1:List V),H' D=some (.lst acc1)∧OF u1 t1 f (BJ ρ1 vs1) (es.drop j)=.ok todo1∧done1 ++ todo1=ys ∧
           Ah ⟨K,μ⟩ H' (fun a=>Av ⟨K,μ⟩ A0 ρ σ (lk ++ (le ++ vs)) a∨a=D) (done ++ done1) acc1,⟨es.length,by omega,fun a o _ q=>q,[],ys,acc,hacc5,ey,rfl,by rw [List.append_nil]; exact ((racc.same s3).same s5).same s6⟩,?_⟩
          rintro j k H6 ⟨hk,n6,done1,todo1,acc1,hacc1,e1,hys,racc1⟩
          have b6:Same (Bn ⟨K,μ⟩ H5 ρ1 σ4 (fun a=>A0 a∨a=D) lk1) H6:=fun a o q=>by
           by_cases haD:a=D
           ·rw [gz (.inl (.inr haD))] at q; cases q
           ·exact n6 a o haD (XR a o q)
          by_cases hjt:j < es.length
          ·have hd1:es.drop j=es[j] :: es.drop (j + 1):=List.drop_eq_getElem_cons hjt
           rw [hd1] at e1
           unfold OF at e1
           refine .inr ⟨w1.go j H6 b6 hjt,fun H'=>(∀ a o,a≠D→H5 a=some o→H' a=some o)∧∃ (done1 todo1:List Dt) (acc1:List V),H' D=some (.lst acc1)∧OF u1 t1 f (BJ ρ1 vs1) (es.drop (j + 1))=.ok todo1∧done1 ++ todo1=ys ∧
            Ah ⟨K,μ⟩ H' (fun a=>Av ⟨K,μ⟩ A0 ρ σ (lk ++ (le ++ vs)) a∨a=D) (done ++ done1) acc1,fun H' q=>⟨k - 1,by omega,by omega,q⟩,fun x' H7 y'=>?_⟩
           obtain ⟨s7,r7⟩:=w1.yld j H6 x' H7 es[j] b6 y' (List.getElem?_eq_getElem hjt)
           have hacc7:=s7 _ _ hacc1
           have sI6:=s45.reD (u':=.lst acc1) hBD sB.a0 n6 hacc1 True.intro
           have sI:=(sI6.grow s7).Uh vs1
           cases eu1:u1 es[j] (BJ ρ1 vs1) with
           | none=>rw [eu1] at e1; cases e1
           | some ρ2=>
            rw [eu1] at e1
            simp only [B3,Out.AA] at e1
            refine hg1 _ _ _ _ _ _ _ _ _ _ sI (r7 _ fun a z=>?_) eu1 fun σ8 s8 m8 o8=>⟨wipe_out o8 hS1,?_⟩
            ·have mz:Mut (H6 a):=by
              rcases z with z | ⟨q,n,z⟩
              ·exact sI6.Ec (lk:=[]) (.inl z)
              ·exact sI6.Ec (lk:=[]) (.inr ⟨q,(fun z=>nomatch z),(aQ z).1⟩)
             refine ⟨?_,fun z2=>by rw [z2] at mz; exact mz⟩
             rcases z with z | ⟨q,n,z⟩
             ·exact .inl z
             ·obtain ⟨z1,_⟩:=aQ z
              refine .inr (gz (.inr ⟨q,fun hq=>iU z1 (List.all_eq_true.mp hsh q hq),z1⟩))
            ·refine ht1 _ _ _ _ _ _ _ s8 ?_
             cases et1:t1 ρ2 with
             | exc x'=>rw [et1] at e1; cases e1
             | bad=>rw [et1] at e1; cases e1
             | ok b=>
              rw [et1] at e1
              simp only [Cf,Out.AA] at e1
              intro H8 s9
              have n8:∀ a o,a≠D→H5 a=some o→H8 a=some o:=fun a o n q=>s9 _ _ (s7 _ _ (n6 a o n q))
              cases b with
              | false=>
               simp only [Bool.false_eq_true,if_false] at e1 ⊢
               exact ⟨n8,done1,todo1,acc1,s9 _ _ hacc7,e1,hys,(racc1.same s7).same s9⟩
              | true=>
               simp only [if_true] at e1 ⊢
               refine he _ _ _ _ _ _ _ (s8.grow s9) ?_
               cases ef:f ρ2 with
               | exc x'=>rw [ef] at e1; cases e1
               | bad=>rw [ef] at e1; cases e1
               | ok y=>
                rw [ef] at e1
                simp only [Cf,Out.AA] at e1
                cases er1:OF u1 t1 f (BJ ρ1 vs1) (es.drop (j + 1)) with
                | exc x'=>rw [er1] at e1; cases e1
                | bad=>rw [er1] at e1; cases e1
                | ok r1=>
                 rw [er1] at e1
                 have ey1:y :: r1=todo1:=by
                  have e':(Out.ok (y :: r1):Out (List Dt))=.ok todo1:=e1
                  injection e'
                 intro v9 H9 s10 r9
                 have hD9:=s10 _ _ (s9 _ _ hacc7)
                 have hlen:acc1.length + 1≤res.length:=by
                  have h1:=racc1.length
                  rw [← hres,← eyr,← hys,← ey1]
                  simp only [List.length_append,List.length_cons] at h1 ⊢
                  omega
                 refine ⟨acc1,hD9,by rw [sizeLine_eq]; omega,fun a o n q=>?_,done1 ++ [y],r1,acc1 ++ [v9],upd_same,rfl,?_,?_⟩
                 ·rw [upd_ne n]
                  exact s10 _ _ (n8 a o n q)
                 ·rw [List.append_assoc]
                  show done1 ++ (y :: r1)=ys
                  rw [ey1]
                  exact hys
                 ·have keep:∀ a o,¬ (Av ⟨K,μ⟩ A0 ρ σ (lk ++ (le ++ vs)) a∨a=D)→H9 a=some o→upd H9 D (.lst (acc1 ++ [v9])) a=some o:=fun a o n q=>by
                   rw [upd_ne fun z=>n (.inr z)]
                   exact q
                  rw [← List.append_assoc done done1 [y]]
                  refine Ah.mono keep (fun a z=>z) _ _ (Ah.append (((racc1.same s7).same s9).same s10) (Ah.cons (r9.BZ fun a z=>?_) Ah.nil))
                  rcases z with z | z
                  ·rcases avs a z with z | ⟨q,n,l,e2,ho⟩
                   ·exact .inl (.inl z)
                   ·have nv:q∉vs:=fun z=>n (List.mem_append_right _ z)
                    have nS:q∉S:=fun z=>nv (hS q z)
                    have nv1:q∉vs1:=fun z=>nv (hv q z)
                    have nS1:q∉S1:=fun z=>nv1 (hS1 q z)
                    refine .inr ⟨q,fun z=>n (List.mem_append_left _ z),l,?_,?_⟩
                    ·rw [(o8.2 q nS1).2,Ku nv1,(o4.2 q nS).2,Ku nv]
                     exact e2
                    ·rw [(o8.2 q nS1).1,EF nv1,(o4.2 q nS).1,EF nv]
                     exact ho
                  ·exact .inl (.inr z)
          ·have hj1:j=es.length:=by omega
           subst hj1
           rw [List.drop_length] at e1
           have et:todo1=[]:=by
            have e':(Out.ok []:Out (List Dt))=.ok todo1:=e1
            injection e' with e'
            exact e'.symm
           subst et
           rw [List.append_nil] at hys
           subst hys
           refine .inl ⟨w1.stop H6 b6,fun a o q=>?_,done ++ done1,r,acc1,hacc1,rfl,?_,racc1⟩
           ·have hne:a≠D:=fun z=>by subst z; rw [hD] at q; cases q
            exact n6 a o hne (s6 _ _ (s5 _ _ (s3 _ _ (s2 _ _ q))))
           ·rw [List.append_assoc,eyr]
            exact hres
  ·have e1:i=ds.length:=by omega
   subst e1
   rw [List.drop_length] at e
   have et:todo=[]:=by
    have e':(Out.ok []:Out (List Dt))=.ok todo:=e
    injection e' with e'
    exact e'.symm
   subst et
   rw [List.append_nil] at hres
   subst hres
   refine .inl ⟨w.stop H2 sBW,?_⟩
   exact h1 D acc H2 (s1.trans s2) (s1.free hD) hacc racc
end
end FD
namespace FD
open PySem L2 PyProof.Rows PySem.Spec
def cIn(K:PySem.W.Frag)(W:WX)(f:Env→Out (List Dt))(lk:List Nat):TI:=fun σ H R=>∃ (μ:Mu) (H0:Hp) (A0:Ad) (ρ:Env),StOk ⟨K,μ⟩ H0 A0 H ρ σ∧DY K W H σ (f ρ) (fun ds=>∀ J H1,Same H H1→Walks ⟨K,μ⟩ (Bn ⟨K,μ⟩ H1 ρ σ A0 lk) A0 J ds→R J H1)
def cR(X:Cx)(W:WX)(tg iter:Expr)(f:Env→Out (List Dt))(lk:List Nat):Prop:=∃ wi,PI X tg iter wi∧iR X.K W wi f lk
section
variable {X:Cx} {W:WX} {e:Expr} {es:List Expr} {f:Env→Out Dt} {t t1:Env→Out Bool} {u u1:Dt→Env→Option Env} {S S1 lk lk1 lt lt1 le:List Nat} {tg:Expr} {src1:Env→Out (List Dt)}
theorem cR.NC(h:cR X W tg e src1 lk):PI X tg e (cIn X.K W src1 lk):=by
 obtain ⟨te,pe,de⟩:=h
 exact ⟨fun pins s σ H Q I ⟨μ,H0,A0,ρ,so,po⟩=>pe.run pins s σ H Q I (de μ H0 A0 ρ σ H Q so po)⟩
theorem dG{f:Env→Out Dt}(h:Bv X W e f lk):cR X W tg e (AD f) lk:=by
 obtain ⟨te,pe,de⟩:=h
 exact ⟨_,ZJ pe,bL de⟩
theorem jB{elt tg iter tg1 iter1:Expr}{ifs ifs1:List Expr}{scope:Scope}{pos:Pos}{src:Env→Out (List Dt)}(own:List (Str × Nat))(vs1:List Nat)(hc:X.calm=true)(hN:X.N.Nodup)(hi:iM X W tg iter src lk)
  (hg:∀ (s:Shared) (H:Hp) (C:Addr) (cl:List (Str × Addr)) (fp:List Addr),Wt (X.blk s H scope (compEnvC scope cl C X.env) fp) tg u S)
  (ht:∀ (s:Shared) (H:Hp) (C:Addr) (cl:List (Str × Addr)) (fp:List Addr),Q9 (X.blk s H scope (compEnvC scope cl C X.env) fp) W0 ifs t lt)
  (hi1:∀ (s:Shared) (H:Hp) (C:Addr) (cl:List (Str × Addr)) (fp:List Addr),cR (X.blk s H scope (compEnvC scope cl C X.env) fp) W0 tg1 iter1 src1 lk1)
  (hg1:∀ (s:Shared) (H:Hp) (C:Addr) (cl:List (Str × Addr)) (fp:List Addr),Wt (X.blk s H scope (compEnvC scope cl C X.env) fp) tg1 u1 S1)
  (ht1:∀ (s:Shared) (H:Hp) (C:Addr) (cl:List (Str × Addr)) (fp:List Addr),Q9 (X.blk s H scope (compEnvC scope cl C X.env) fp) W0 ifs1 t1 lt1)
  (he:∀ (s:Shared) (H:Hp) (C:Addr) (cl:List (Str × Addr)) (fp:List Addr),Bv (X.blk s H scope (compEnvC scope cl C X.env) fp) W0 elt f le)
  (ok:BlkOk X.N X.env.scope scope own:=by exact blkOk_by (by decide +kernel)) (hv:∀ i∈vs1,i∈own.map (·.2):=by decide) (hS:∀ i∈S,i∈own.map (·.2):=by decide) (hS1:∀ i∈S1,i∈vs1:=by decide) (hs:∀ x,foldedSetIterable iter X.env x=pure x:=by intro _; rfl) (hs1:∀ env x,foldedSetIterable iter1 env x=pure x:=by intro _ _; rfl):
  ZC X W (.ListComp elt [⟨tg,iter,ifs,0⟩,⟨tg1,iter1,ifs1,0⟩] scope pos) (bU u (own.map (·.2)) t src1 lk1 u1 vs1 t1 f src lk) (lk ++ (le ++ own.map (·.2))):=by
 obtain ⟨wi,pi,di⟩:=hi
 refine ⟨_,pe_lc2 (g:=cG X.K u S) (tt:=cT X.K W0 t) (wi1:=cIn X.K W0 src1 lk1) (g1:=cG X.K u1 S1) (tt1:=cT X.K W0 t1) (te:=cE X.K W0 f le) hc hN pi ok hv (fun s H C cl fp=>(hg s H C cl fp).NC) (fun s H C cl fp=>(ht s H C cl fp).NC) (fun s H C cl fp=>(hi1 s H C cl fp).NC) (fun s H C cl fp=>(hg1 s H C cl fp).NC) (fun s H C cl fp=>(ht1 s H C cl fp).NC) (fun s H C cl fp=>(he s H C cl fp).NC) hs hs1,?_⟩
 exact eS di (fun μ H0 A0 ρ ρ' σ H d v Q s r e q=>⟨μ,H0,A0,ρ,ρ',d,s,r,e,q⟩) hS (lt:=lt) (fun μ H0 A0 ρ σ H Q s h=>⟨μ,H0,A0,ρ,s,h⟩) (fun μ H0 A0 ρ σ H Q s h=>⟨μ,H0,A0,ρ,s,h⟩) (fun μ H0 A0 ρ ρ' σ H d v Q s r e q=>⟨μ,H0,A0,ρ,ρ',d,s,r,e,q⟩) hS1 hv (lt1:=lt1) (fun μ H0 A0 ρ σ H Q s h=>⟨μ,H0,A0,ρ,s,h⟩) (fun μ H0 A0 ρ σ H Q s h=>⟨μ,H0,A0,ρ,s,h⟩)
end
end FD
namespace FD
open PySem L2 PyProof.Rows PySem.Spec
section
variable {CX:CXT} {P:Program} {w:World} {K:PySem.W.Frag} {mg:Str→Option Value} {base:Heap} {k:Nat} {f:Addr} {name qual:Str} {params:Arguments} {body:List Stmt} {scope:Scope} {dV kV doc pm cdv ct oc:Value} {an od:Option Addr}
 {osl:Array (Option Value)} {N ps:List Str} {sp:Sp} {pd:Str}
end
section
variable {P:Program} {w:World} {K:PySem.W.Frag} {mg:Str→Option Value} {base:Heap}
end
end FD
namespace FD
open PySem L2 PyProof.Rows PySem.Spec
structure SMet (K:PySem.W.Frag) (C:Addr) (mc:Value) (m:Str) (p g:Addr):Prop where
 at_:PySem.W.findCls K (.ref C) mc m=some (.get (.builtin "staticmethod.__get__") (.ref p) .none (.ref C))
 rc:∃ rest,PySem.W.recIn K p "staticmethod" = some (.ref g :: rest)
 kp:PySem.W.keepIn K (.ref g)=true
structure SmC (P:Program) (w:World) (K:PySem.W.Frag) (mg:Str→Option Value) (base:Heap) (k:Nat) (C:Addr) (m:Str) (ψ:List Dt→Out Dt):Prop where
 ex:∃ mc p g,ClX.CRead K C mc∧SMet K C mc m p g∧FnR P w K mg base (L2N.CX P w) k g (OI K ψ)
section
variable {X:Cx} {W:WX} {e o:Expr} {es:List Expr} {fs:Env→Out (List Dt)} {fo:Env→Out Dt} {lk la:List Nat} {p pos apos:Pos} {ψ:List Dt→Out Dt} {C:Addr}
end
end FD
namespace FD
open PySem L2 PyProof.Rows PySem.Spec PySem.W
section
variable {prog:Program} {w:World} {A:Around} {E:Value→Shared→Prop} {s:Shared} {T:String} {r d:Addr} {n:Nat} {P:Nat→Value→Prop} {OK:Heap→Prop}
end
section
variable {X:Cx}
end
section
variable {X:Cx} {W:WX} {e:Expr} {fs:Env→Out (List Dt)} {lk:List Nat} {p pos:Pos} {j:Nat}
end
end FD
namespace FD
open PySem L2 PyProof.Rows PySem.Spec
section
variable {K:PySem.W.Frag} {W:WX} {S:List Nat} {σ:L2.St} {μ1:Mu} {H1 H2 H0:Hp} {ρ1:Env} {A0:Ad} {la lb lk:List Nat} {n:Nat} {c:Cell} {cs:List Cell} {p:Addr}
theorem ah(hS:n∈S)(s1:StOk ⟨K,μ1⟩ H0 A0 H1 ρ1 σ)(ec:Ed n ρ1=some cs)(hs:Same H1 H2)(hp:H1 p=none)
  (ok:∀ A',(∀ b,A' b→Av ⟨K,μ1⟩ A0 ρ1 σ [] b∨b=p)→G5 ⟨K,μ1.push p⟩ H0 H2 A' c p):
  StOk ⟨K,μ1.push p⟩ H0 A0 H2 (ρ1.set n (some (.mh (cs ++ [c])))) σ∧Ch K S σ μ1 H1 ρ1 (μ1.push p) H2 (ρ1.set n (some (.mh (cs ++ [c]))))∧(∀ (H:Hp) (A:Ad),Rep ⟨K,μ1.push p⟩ H A (.ad cs.length) (.ref p)):=by
 have e:=Dm ec
 obtain ⟨nd,hlen,_⟩:=s1.lo n _ e
 have hm:Xt μ1 (μ1.push p):=⟨fun k a h=>by show (μ1.l ++ [p])[k]? = _; rw [List.getElem?_append_left (List.getElem?_eq_some_iff.mp h).1]; exact h,rfl,fun z=>by exact absurd e (s1.nm z n cs)⟩
 have st:=s1.alloc (c:=c) e hs hp ok
 have own':∀ a,Dw ⟨K,μ1.push p⟩ (.mh (cs ++ [c])) σ[n]? a→Dw ⟨K,μ1⟩ (.mh cs) σ[n]? a∨a=p:=fun a ⟨k,c',f1,f2,f3⟩=>by
  have f3':(μ1.l ++ [p])[k]? = some a:=f3
  by_cases hk:k < cs.length
  ·rw [List.getElem?_append_left hk] at f1
   rw [List.getElem?_append_left (by rw [← hlen]; exact hk)] at f3'
   exact .inl ⟨k,c',f1,f2,f3'⟩
  ·have hk2:=(List.getElem?_eq_some_iff.mp f1).1
   rw [List.length_append,List.length_singleton] at hk2
   rw [List.getElem?_append_right (by rw [← hlen]; show cs.length≤k; omega)] at f3'
   have:k - μ1.l.length=0:=by rw [← hlen]; show k - cs.length=0; omega
   rw [this] at f3'
   cases f3'
   exact .inr rfl
 refine ⟨st,?_,fun H A=>?_⟩
 ·refine ⟨hm,fun a o q _=>hs a o q,fun j hj=>List.getElem?_set_ne fun (z:n=j)=>hj (by rw [← z]; exact hS),fun j a hj h=>?_,.inr fun j c q=>by rw [s1.one j n _ _ q e]; exact hS⟩
  obtain ⟨l,e1,ho⟩:=h
  by_cases hn:n=j
  ·subst hn
   rw [List.getElem?_set_self (List.getElem?_eq_some_iff.mp e).1] at e1
   cases e1
   exact (own' a ho).imp (fun z=>⟨n,hS,_,e,z⟩) fun z=>by rw [z]; exact hp
  ·rw [List.getElem?_set_ne hn] at e1
   refine .inl ⟨j,hj,l,e1,ho.ext fun q=>?_⟩
   cases l with
   | mh c=>exact absurd (s1.one n j _ _ e e1) hn
   | _=>cases q
 ·unfold Rep
  refine ⟨p,?_,rfl⟩
  show (μ1.l ++ [p])[cs.length]? = some p
  rw [show cs.length=μ1.l.length from hlen,List.getElem?_append_right (Nat.le_refl _),Nat.sub_self]
  rfl
def Kq(n:Nat):Env→XO Dt:=fun ρ=>match Ed n ρ with
 | some cs=>.ok (.ad cs.length) (ρ.set n (some (.mh (cs ++ [.dic [] []]))))
 | none=>.bad
theorem UN(hS:n∈S):Ml K W S tDNewK (Kq n) []:=by
 intro μ H0 A0 ρ σ H Q s h
 unfold Kq at h
 intro p hp
 split at h
 ·rename_i cs ec
  obtain ⟨t1,t2,t3⟩:=ah (S:=S) (c:=.dic [] []) (H2:=upd H p (.dK [])) hS s ec (Same.new hp) hp fun A' hA=>⟨s.same.free hp,[],upd_same,rfl,Ah.nil⟩
  exact h _ _ _ t2 t1 (t3 _ _)
 ·exact False.elim h
def Us(n:Nat)(x:Dt)(k:Key)(d:Dt)(ρ:Env):Option Env:=match x with
 | .ad j=>(Ed n ρ).bind fun cs=>match cs[j]? with
  | some (.dic ks ds)=>if ks.length < 16777216 then some (ρ.set n (some (.mh (cs.set j (.dic (E2 ks k) (Df ks ds k d)))))) else none
  | _=>none
 | _=>none
def HF(n:Nat)(fx fk:Env→Out Dt)(f:Env→XO Dt)(lk:List Nat):Env→SOut:=fun ρ=>xE (f ρ) fun d ρ1=>IL (fx (AQ d lk ρ1)) (AQ d lk ρ1) fun x=>IL (fk (AQ d lk ρ1)) (AQ d lk ρ1) fun k=>match (keyD k).bind fun k=>Us n x k d (AQ d lk ρ1) with
 | some ρ'=>.ok .nx ρ'
 | none=>.bad
theorem Y0{te tx tk:TE}{f:Env→XO Dt}{fx fk:Env→Out Dt}(ha:Ml K W S te f lk)(hx:D3 K W tx fx la)(hk:D3 K W tk fk lb):Jc K W (sDPut tx tk te) (HF n fx fk f lk):=by
 intro μ H0 A0 ρ σ H D s h
 unfold HF at h
 refine ha _ _ _ _ _ _ _ s (A9.xt h fun d ρ1 _ h1 μ1 v H1 c1 s1 r1=>?_)
 obtain ⟨s2,r2⟩:=s1.RH r1
 refine hx _ _ _ _ _ _ _ s2 (A9.st s2 (h1.ext c1.xt) fun x _ h2 w H2 g2 rx=>?_)
 have s3:=s2.grow g2
 refine hk _ _ _ _ _ _ _ s3 (A9.st s3 h2 fun k _ h3 w' H3 g3 rk=>?_)
 have s4:=s3.grow g3
 split at h3
 ·rename_i ρ' ep
  obtain ⟨k',ek,ep⟩:=Option.bind_eq_some_iff.mp ep
  unfold Us at ep
  split at ep
  ·rename_i j _ _
   obtain ⟨cs,ec,ep⟩:=Option.bind_eq_some_iff.mp ep
   split at ep
   ·rename_i ks ds e1
    split at ep
    ·rename_i hl
     cases ep
     unfold Rep at rx
     obtain ⟨b,eb,rfl⟩:=rx
     obtain ⟨_,_,hc⟩:=s4.lo n _ (Dm ec)
     obtain ⟨h0,kvs,hb,hks,r⟩:=hc j _ b e1 eb
     subst hks
     have ew:=JT ek rk
     subst ew
     refine ⟨b,_,rfl,DPut.k hb (by rw [List.length_map] at hl; rw [sizeLine_eq]; exact hl),?_⟩
     refine h3 _ _ _ (Xt.refl _) (s4.dU (c':=.dic (E2 (kvs.map (·.1)) k') (Df (kvs.map (·.1)) ds k' d)) (Dm ec) e1 rfl eb rfl fun A' hA=>?_)
     have ow:Bw ⟨K,μ1⟩ (AQ d lk ρ1) σ n b:=⟨_,Dm ec,j,_,e1,rfl,eb⟩
     exact ⟨h0,putK kvs k' v,upd_same,Lb,(K9 ((r2.same g2).same g3) r).mono (Av.keep ow) hA⟩
    ·cases ep
   ·cases ep
  ·cases ep
 ·exact False.elim h3
def EL(i:Nat)(fk:Env→Out Dt)(f:Env→XO Dt)(lk:List Nat):Env→SOut:=fun ρ=>xE (f ρ) fun d ρ1=>match (AQ d lk ρ1)[i]? with
 | some (some (.od ks ds))=>IL (fk (AQ d lk ρ1)) (AQ d lk ρ1) fun k=>(match keyD k with
  | some k=>if ks.length < 16777216 then .ok .nx ((AQ d lk ρ1).set i (some (.od (E2 ks k) (Df ks ds k d)))) else .bad
  | none=>.bad)
 | _=>.bad
theorem Zu{i:Nat}{te tk:TE}{f:Env→XO Dt}{fk:Env→Out Dt}(ha:Ml K W S te f la)(hk:D3 K W tk fk lb):Jc K W (sDPut (tVar i) tk te) (EL i fk f la):=by
 intro μ H0 A0 ρ σ H D s h
 unfold EL at h
 refine ha _ _ _ _ _ _ _ s (A9.xt h fun d ρ1 _ h2 μ1 v H1 c1 s1 r1=>?_)
 obtain ⟨s2,r2⟩:=s1.RH r1
 split at h2
 ·rename_i ks ds e2
  obtain ⟨a,kvs,e1,h0,h1,hks,r3⟩:=s2.lo i _ e2
  refine ⟨_,e1,?_⟩
  refine hk _ _ _ _ _ _ _ s2 (A9.st s2 (h2.ext c1.xt) fun k _ h3 w H2 s3 r4=>?_)
  have sg:=s2.grow s3
  split at h3
  ·rename_i k' ek
   split at h3
   ·rename_i hl
    subst hks
    have ew:=JT ek r4
    subst ew
    have h1':=s3 _ _ h1
    refine ⟨a,_,rfl,DPut.k h1' (by rw [List.length_map] at hl; rw [sizeLine_eq]; exact hl),?_⟩
    exact h3 _ _ _ (Xt.refl _) (sg.kh e2 e1 Lb (K9 (r2.same s3) (r3.same s3)))
   ·exact False.elim h3
  ·exact False.elim h3
 ·exact False.elim h2
end
section
variable {X:Cx} {W:WX} {S:List Nat} {e o a:Expr} {fs:Env→Out (List Dt)} {f:Env→XO Dt} {fo fk:Env→Out Dt} {lk la lb:List Nat} {p p1 p2 pos:Pos} {n j:Nat}
theorem Wx(hS:n∈S:=by decide):KP X W S (.Dict [] [] p) (Kq n) []:=⟨_,pe_dnewK,UN hS⟩
theorem Xe(n:Nat)(hr:Room j X.A)(h:KP X W S e f lk)(ho:Bv X W o fo la)(hk:Bv X W a fk lb)(hs:swapsWith e (some (.Subscript o a p2)) pos.line X.env=pure false:=by rfl):Nq X W (.Assign [.Subscript o a p2] e pos) (HF n fo fk f lk):=by
 obtain ⟨t,p,d⟩:=h
 obtain ⟨t',p',d'⟩:=ho
 obtain ⟨t'',p'',d''⟩:=hk
 exact ⟨_,ps_dput (by have:=hr.un; omega) p' p'' p hs,Y0 d d' d''⟩
theorem Xq(hr:Room j X.A)(i:Nat){x:Str}(h:KP X W S e f lk)(hk:Bv X W a fk la)(hN:X.N[i]? = some x:=by rfl)(hv:Vis X.env.scope x:=by first | exact Or.inl rfl | exact Or.inr (Or.inl rfl) | exact Or.inr (Or.inr rfl))(hd:(x == ("__debug__" : Str))=false:=by decide)
  (hcd:(x == ("__classdict__" : Str))=false:=by decide) (hs:swapsWith e (some (.Subscript (.Name x p1) a p2)) pos.line X.env=pure false:=by rfl):Nq X W (.Assign [.Subscript (.Name x p1) a p2] e pos) (EL i fk f lk):=by
 obtain ⟨t,p,d⟩:=h
 obtain ⟨t',p',d'⟩:=hk
 exact ⟨_,ps_dput (by have:=hr.un; omega) (pe_var hN hv hd hcd) p' p hs,Zu d d'⟩
end
end FD
namespace L2
open PySem PySem.Spec PyProof.Rows
section
variable {X:Cx}
end
end L2
namespace FD
open PySem L2 PyProof.Rows PySem.Spec
end FD
namespace FD
open PySem L2 PyProof.Rows PySem.Spec
section
variable {prog:Program} {w:World} {A:Around} {E:Value→Shared→Prop}
end
end FD
namespace FD
open PySem L2 PyProof.Rows PySem.Spec
section
variable {P:Program} {w:World} {K:PySem.W.Frag} {mg:Str→Option Value} {base:Heap} {A:Around} {outer:List PySem.Env} {s:Shared} {H:Hp}
end
def WO(P:Program)(w:World)(K:PySem.W.Frag)(mg:Str→Option Value)(base:Heap)(CX:CXT)(k:Nat)(f:Addr)(np:Nat)(ks:List Str)(sp:Sp):Prop:=
 ∀ (A:Around) (outer:List PySem.Env) (s:Shared) (H:Hp) (us kus:List Value) (vs:List V) (Q:VK) (E:XK),us.length=np→kus.length=ks.length→Room k A→Env0 P w K mg base A outer s H→Vals vs (us ++ kus)→sp vs H Q E →
  codeAny (model P w) A (.call (.ref f) ⟨us,ks.zip kus⟩) (CR CX outer P w H s Q E) s
section
variable {CX:CXT} {P:Program} {w:World} {K:PySem.W.Frag} {mg:Str→Option Value} {base:Heap} {k:Nat} {f:Addr} {name qual:Str} {params:Arguments} {body:List Stmt} {scope:Scope} {dV kV doc pm cdv ct oc:Value} {an od:Option Addr}
 {osl:Array (Option Value)} {N ps:List Str} {sp:Sp} {pd:Str} {ks:List Str}
end
end FD
namespace FD
open PySem L2 PyProof.Rows PySem.Spec
section
variable {P:Program} {w:World} {K:PySem.W.Frag} {mg:Str→Option Value} {base:Heap}
theorem WO.imp{CX:CXT}{k:Nat}{f:Addr}{np:Nat}{ks:List Str}{sp sp':Sp}(F:WO P w K mg base CX k f np ks sp)(h:∀ vs H Q E,vs.length=np + ks.length→sp' vs H Q E→sp vs H Q E):WO P w K mg base CX k f np ks sp':=fun A outer s H us kus vs Q E h1 h2 hr e0 r hs=>
 F A outer s H us kus vs Q E h1 h2 hr e0 r (h _ _ _ _ (by rw [r.length,List.length_append,h1,h2]) hs)
theorem WO.mono{CX:CXT}{j k:Nat}{f:Addr}{np:Nat}{ks:List Str}{sp:Sp}(F:WO P w K mg base CX j f np ks sp)(h:j≤k):WO P w K mg base CX k f np ks sp:=fun A outer s H us kus vs Q E h1 h2 hr=>F A outer s H us kus vs Q E h1 h2 (hr.mono h)
structure MeK (P:Program) (w:World) (K:PySem.W.Frag) (mg:Str→Option Value) (base:Heap) (k:Nat) (C:Addr) (m:Str) (ks:List Str) (ψ:List Dt→Out Dt):Prop where
 cls:Cls K C
 ex:∃ f,Meth K C m f∧WO P w K mg base (L2N.CX P w) k f 1 ks (OI K ψ)
end
structure PKs (X:Cx) (es:List Keyword) (t:TA):Prop where
 run:∀ (pos:Pos) (pins:List (Addr × Obj)) (s:Shared) (σ:L2.St) (H:Hp) (Q:List V→Hp→Prop),Inv X pins σ H s→t σ H Q→wpAny (model X.prog X.w) X.A (evalAll ((backToKw pos (keywordEach es X.env)).map (·.2))) (fun us s'=>us.length=es.length∧AP X pins σ Q us s') X.xe s
section
variable {X:Cx} {W:WX} {o e:Expr} {te ta:TE} {t:TA} {kws:List Keyword} {pos apos p:Pos} {name:Str} {fo f:Env→Out Dt} {fs:Env→Out (List Dt)} {la lk:List Nat} {ks:List Str}
end
end FD
namespace FD
open PySem L2 PyProof.Rows PySem.Spec
def LK(ks:List Key)(j:Key):List Key:=ks.filter fun k=>decide (k≠j)
def G7:List Key→List Dt→Key→List Dt
 | k :: ks,d :: ds,j=>if k=j then G7 ks ds j else d :: G7 ks ds j
 | _,_,_=>[]
theorem Wo{kvs:List (Key × V)}{k:Key}:(dropK kvs k).map (·.1)=LK (kvs.map (·.1)) k:=by
 unfold dropK LK
 rw [List.filter_map]
 rfl
theorem Qi{κ:KM}{H:Hp}{A:Ad}{k:Key}:∀ {kvs:List (Key × V)} {ds:List Dt},Ah κ H A ds (kvs.map (·.2))→Ah κ H A (G7 (kvs.map (·.1)) ds k) ((dropK kvs k).map (·.2))
 | [],ds,r=>by
  show Ah κ H A (G7 [] ds k) []
  unfold G7
  exact Ah.nil
 | p :: kvs,[],r=>by
  unfold Ah at r
  cases r
 | p :: kvs,d :: ds,r=>by
  unfold Ah at r
  obtain ⟨u,us,e,r1,r2⟩:=r
  rw [List.map_cons] at e
  obtain ⟨e1,e2⟩:=List.cons.inj e
  subst e1 e2
  have ih:=Qi (k:=k) r2
  rw [List.map_cons]
  unfold G7 dropK
  rw [List.filter_cons]
  by_cases h:p.1=k
  ·rw [if_pos h,if_neg (by simp [h])]
   exact ih
  ·rw [if_neg h,if_pos (by simp [h])]
   exact Ah.cons r1 ih
theorem aT{kvs:List (Key × V)}{k:Key}(h:k∈kvs.map (·.1)):valV kvs k≠none:=by
 obtain ⟨p,hp,e⟩:=List.mem_map.mp h
 unfold valV
 intro z
 rw [Option.map_eq_none_iff,List.find?_eq_none] at z
 exact z p hp (by simpa using e)
section
variable {K:PySem.W.Frag} {W:WX} {la lb:List Nat}
end
section
variable {X:Cx} {W:WX} {e f:Expr} {fk fz:Env→Out Dt} {la lb:List Nat} {apos cpos pos p1:Pos}
end
end FD
namespace FD
open PySem L2 PyProof.Rows PySem.Spec
def UO:Dt→Dt→Option Bool
 | .bl a,.bl b=>some (!decide (a=b))
 | _,_=>none
theorem Z1{K:PySem.W.Frag}:OQ K rNotB UO:=by
 intro μ H A a b d x y Q ra rb e q
 unfold UO at e
 split at e
 ·cases e
  obtain rfl:x=.bl _:=ra
  obtain rfl:y=.bl _:=rb
  exact ⟨_,_,rfl,rfl,q⟩
 ·cases e
theorem Xp{X:Cx}:Cmp X .IsNot UO:=⟨_,op_notBl,Z1⟩
end FD
namespace FD
open PySem L2 PyProof.Rows PySem.Spec
section
variable {K:PySem.W.Frag} {S:List Nat} {W:WX} {lk:List Nat} {X:Cx} {tg e:Expr}
end
end FD
namespace L2
open PySem PySem.Spec PyProof.Rows
section
variable {X:Cx}
end
end L2
namespace FD
open PySem L2 PyProof.Rows PySem.Spec
end FD
namespace L2
open PySem PySem.Spec PyProof.Rows
section
variable {X:Cx}
end
end L2
namespace FD
open PySem L2 PyProof.Rows PySem.Spec
section
variable {K:PySem.W.Frag} {S:List Nat} {la lb:List Nat} {W:WX} {n:Nat}
end
section
variable {X:Cx} {W:WX} {S:List Nat} {a b:Expr} {fa fb:Env→XO Dt} {la lb:List Nat} {pos:Pos}
end
section
variable {X:Cx} {W:WX} {e:Expr} {f:Env→Out Dt} {la:List Nat} {pos p2:Pos} {lo hi:Option Expr} {fl fh:Env→Out (Option Int)}
end
section
variable {K:PySem.W.Frag} {S:List Nat} {σ:L2.St} {μ μ':Mu} {H H' H0:Hp} {ρ ρ':Env} {A0:Ad} {lk la lb:List Nat} {W:WX} {d e:Dt} {v:V} {cs cs':List Cell} {n k:Nat} {c:Cell} {a:Addr}
end
section
variable {X:Cx} {W:WX} {e:Expr} {fs:Env→Out (List Dt)} {lk:List Nat} {p pos:Pos}
end
end FD
namespace PySem.FX
open PySem PySem.W PySem.Calls PyProof.Rows PySem.Spec
end PySem.FX
namespace TxS
open PySem PySem.Spec PyProof.Rows L2
def kS(e:Int × Value):Str:=match e.2 with | .str k _=>k | _=>Str.empty
def Tx1(w:World)(e:Int × Value):Prop:=∃ k t,e.2=Value.str k t∧e.1=hashStr w k
def iN(w:World)(h:Heap)(a:Addr)(ks:List Str):Prop:=
 ∃ o es ep t,h.get? a=some o∧o.ExactSet∧o.data=.set es ep t∧(∀ e∈es.toList,Tx1 w e)∧(es.toList.map kS).Perm ks∧ks.Nodup∧es.size < scanBound∧t.fits es.size=true∧Ris t.place.toList∧(w.params.followText "set-order" = true∨t.led=true)
section
variable {P:Program} {w:World} {h h':Heap} {a:Addr} {ks:List Str}
theorem iN.at(R:iN w h a ks)(k:∀ o,h.get? a=some o→h'.get? a=some o):iN w h' a ks:=by
 obtain ⟨o,es,ep,t,ho,r⟩:=R
 exact ⟨o,es,ep,t,k o ho,r⟩
end
section
variable {P:Program} {w:World} {A:Around} {E:Value→Shared→Prop} {s:Shared} {a:Addr} {ks:List Str}
end
section
variable {P:Program} {w:World} {A:Around} {E:Value→Shared→Prop} {s:Shared}
end
section
variable {P:Program} {w:World} {A:Around} {E:Value→Shared→Prop} {s:Shared} {a:Addr} {ks:List Str}
end
end TxS
namespace TxS
open PySem PySem.Spec PyProof.Rows L2
section
variable {P:Program} {w:World} {A:Around} {E:Value→Shared→Prop} {s:Shared}
end
end TxS
namespace FD
open PySem L2 PyProof.Rows PySem.Spec TxS
section
variable {X:Cx} {W:WX} {a:Expr} {ta:TE} {f:Env→Out Dt} {la:List Nat} {p p2 q pos:Pos}
end
end FD
namespace LiI
open PySem PySem.W PySem.Spec PyProof.Rows L2 TxS
mutual
theorem UX{h:Heap}:∀ {v:Value} {d:PyData} {as:List Addr},Reads h v d as→∀ a∈as,a < h.objs.size
 | _,_,_,.none,a,q=>nomatch q
 | _,_,_,.bool b,a,q=>nomatch q
 | _,_,_,.int i t,a,q=>nomatch q
 | _,_,_,.str x t,a,q=>nomatch q
 | _,_,_,.list h1 h2 h3 h4,a,q=>(List.mem_cons.mp q).elim (fun e=>e ▸ Heap.lt_size h1) (GY h4 a)
 | _,_,_,.tuple h1 h2 h3 h4,a,q=>GY h4 a q
 | _,_,_,.dict h1 h2 h3 h4 h5,a,q=>(List.mem_append.mp q).elim (fun q=>(List.mem_cons.mp q).elim (fun e=>e ▸ Heap.lt_size h1) (GY h4 a)) (GY h5 a)
theorem GY{h:Heap}:∀ {vs:List Value} {ds:List PyData} {as:List Addr},ReadsAll h vs ds as→∀ a∈as,a < h.objs.size
 | _,_,_,.nil,a,q=>nomatch q
 | _,_,_,.cons h1 h2,a,q=>(List.mem_append.mp q).elim (UX h1 a) (GY h2 a)
end
section
variable {X:Cx}
theorem UC{pins:List (Addr × Obj)}{σ:L2.St}{H:Hp}{s:Shared}{h':Heap}{tk:Nat}{kvs:List (Key × V)}{vs:List (Key × Value)}{as:List Addr}(I:Inv X pins σ H s)(kv:KV kvs vs)
  (hk:∀ b o,s.heap.get? b=some o→h'.get? b=some o) (hl:as.length=vs.length) (hG:PySem.W.KdxG (mixKind X.prog X.w) vs s.heap.objs.size h' as):
  ∃ H':Hp,(∀ b o,H b=some o→H' b=some o)∧(∀ t∈as,H t=none)∧Paired (fun (t:Addr) (q:Key × V)=>H' t=some (.tup [kV q.1,q.2])) as kvs∧Inv X pins σ H' { s with heap:=h',toks:=tk }:=by
 have lk:kvs.length=vs.length:=Paired.length kv
 have nd:as.Nodup:=List.Pairwise.imp (fun {a b} (h:a < b)=>Nat.ne_of_lt h) hG.rise
 have new:∀ t∈as,H t=none:=fun t ht=>I.hok.fresh (Nat.le_of_lt (hG.above t ht))
 have atP:=putT_at as kvs H (by omega) nd
 have off:∀ b,b∉as→putT H as kvs b=H b:=fun b h1=>putT_off as kvs H h1
 have low:∀ b o,s.heap.get? b=some o→b∉as:=fun b o e z=>absurd (Heap.lt_size e) (Nat.not_lt.mpr (Nat.le_of_lt (hG.above b z)))
 have kp:∀ b u,H b=some u→(putT H as kvs) b=some u:=fun b u e=>by
  rw [off b (fun z=>by rw [new b z] at e; cases e)]
  exact e
 refine ⟨putT H as kvs,kp,new,atP,?_⟩
 refine I.call' (ch:=[]) rfl ⟨fun b o q _ _ _=>hk b o q,fun b o q _ _ _=>⟨o.slots,hk b o q⟩,fun b o q n _=>?_,fun b o q _=>⟨o,hk b o q⟩,fun b xs q=>kp b _ q,fun b o u q=>kp b _ q,fun b ps q=>⟨#[],by rw [kp b _ q]; simp⟩⟩ (fun b u q=>?_) I.bare fun b z=>by simp at z
 ·rw [off b (low b o q)]
  exact n
 ·by_cases hb:b∈as
  ·obtain ⟨j,pk,e1,e2,e3⟩:=paired_ix atP hb
   rw [e3] at q
   cases q
   obtain ⟨key,k,x,f1,f2,f3⟩:=hG.pairs j b e1
   obtain ⟨qv,g1,g2,g3⟩:=paired_get kv e2
   rw [f1] at g1
   cases g1
   have rk:RelV (kV pk.1) key:=by
    rw [g2]
    exact relV_key (show keyIs k key=true from f2)
   exact ⟨by show 2≤sizeLine; decide,[key,x],.cons rk (.cons g3 .nil),⟨_,f3,rfl,_,rfl⟩⟩
  ·rw [off b hb] at q
   exact (I.hok b u q).stay (fun d v _ y=>hk d v y) (fun d y=>kp d _ y) fun d xs y=>kp d _ y
def cF(K:PySem.W.Frag):V→Hp→VK→Prop:=fun v H Q=>∃ (a:Addr) (es:List (Key × V)),v=.ref a∧Rd H a (.dK es) ∧
 ∀ (G:Hp) (us:List Addr),(∀ c u,H c=some u→G c=some u)→(∀ u∈us,H u=none)→Paired (fun (u:Addr) (z:Key × V)=>G u=some (.tup [kV z.1,z.2])) us es →
  ∃ ds:List PyData,DpAll K G (us.map V.ref) ds∧PySem.W.AllAlike ds∧PySem.W.Sortable ds∧(∀ d∈ds,d.depth≤60)∧∀ q,G q=none→Q (.ref q) (upd G q (.lst ((((us.map V.ref).zip ds).mergeSort TV).map (·.1))))
def Xb(K:PySem.W.Frag)(t:TE):TE:=fun σ H Q=>t σ H fun v G=>cF K v G Q
theorem Y2{a:Expr}{t:TE}{q1 q2 q3 q4:Pos}(hu:X.A.units + 68 < cLine)(ca:X.calm=true)(pa:PE X a t)(gl:Gl X "sorted")(no:X.mg "sorted" = none)(b1:attributeBase a "items" X.env (eval a X.env)=eval a X.env:=by rfl)(ln:(q2.endLine == q3.line)=true:=by rfl)
  (st:starEach [.Call (.Attribute a "items" q2) [] [] q3] X.env=(false,eval (.Call (.Attribute a "items" q2) [] [] q3) X.env) :: starEach [] X.env:=by rfl):
  PE X (.Call (.Name "sorted" q1) [.Call (.Attribute a "items" q2) [] [] q3] [] q4) (Xb X.K t):=by
 constructor
 intro pins s σ H Q I go
 refine Call_ (ld_blt I gl no PyProof.Rows.boot_sorted ?_)
 refine callWith_builtin1 (args_cons ?_ st) rfl rfl
 refine wpAny_Call_method (T:="dict") (id:="dict.items") b1 rfl ln F.plainAttrs_dict F.slot_dict_items F.type_dict_items (thn (pa.run pins s σ H _ I go) fun u s1 ⟨v,G,J,rv,d,es,ev,rd,k⟩=>?_)
 subst ev
 obtain rfl:u=Value.ref d:=rv
 obtain ⟨w1,w2,vs,kv,od⟩:=rd.ok J.hok
 obtain ⟨ep,NR⟩:=od.dictAt
 have ll:es.length=vs.length:=Paired.length kv
 have J2:Inv X pins σ G { s1 with heap:=s1.heap.push { cls:=.type "dict_items",data:=.fields #[.ref d] } }:=J.kept (t':=s1.toks) fun b ob e=>Heap.get?_push_of_some _ e
 refine ⟨od.typeIs,od.mapOf.noDict,?_⟩
 show wpAny _ _ (callWith q3 (.builtin "dict.items") [.ref d] [] []) _ X.xe s1
 refine method_meetsIn F.slot_dict_items F.entry_dict_items rfl (PySem.evalArgs_none ⟨rfl,od.typeIs,F.args_dict_items_1 _,_,meets_dict_items (mixKind X.prog X.w) d w2,⟨vs,od⟩,?_⟩)
 refine args_nil ?_
 refine Calls.call_function_entry kind_sorted plain_sorted entry_sorted (args_sorted1 _) ?_
 unfold Builtin.«sorted»
 refine wpAny_bind (m:=checkCount "sorted" 1 1 _) (wpAny_pure ?_)
 refine wpAny_bind (PySem.W.kdx_collect (A:=X.A.in1) (knd:=mixKind X.prog X.w) (kvs:=vs) (ep:=ep) (J.ok.hd ca) ⟨_,Heap.get?_push_size _ rfl,rfl,rfl⟩ (NR.push _) (by omega) fun h' tk as keep hl hG=>?_)
 obtain ⟨G',k1,k2,k3,J3⟩:=UC (tk:=tk) J2 kv keep hl hG
 obtain ⟨ds,dp,al,so,dpt,q⟩:=k G' as k1 k2 k3
 obtain ⟨e1,e2,e3⟩:=SE J3 (vals_refs as) dp
 have hvz:(as.map Value.ref).length≤sizeLine:=by rw [List.length_map]; omega
 refine wpAny_bind (wpAny_newList ?_ hvz)
 have hoL:(h'.push (seqObj "list" (as.map Value.ref).toArray 0)).get? h'.objs.size=some (seqObj "list" (as.map Value.ref).toArray 0):=Heap.get?_push_size _ rfl
 refine wpAny_bind (wpAny_holding ?_)
 refine PySem.W.list_sort_data (R:=fun u b=>RelV b.1 u) (bs:=(as.map V.ref).zip ds) (enc:=fun p:V × PyData=>p.2) hoL e1 (e2.mono fun v b ⟨bs,r⟩=>⟨bs,Reads.keeps (fun b o e=>Heap.get?_push_of_some _ e) r,fun z=>absurd (UX r _ z) (Nat.lt_irrefl _)⟩) (by rw [e3]; exact al) (by rw [e3]; exact so) (by rw [← e1.length]; exact hvz) (fun b hb=>?_) fun out ho2 he2=>?_
 ·have:b.2∈ds:=by rw [← e3]; exact List.mem_map.mpr ⟨b,hb,rfl⟩
  have:=dpt _ this
  show X.A.in1.units + 1 + b.2.depth < cLine
  have:X.A.in1.units≤X.A.units + 1:=by first | exact Nat.le_refl _ | (show X.A.units + 1≤X.A.units + 1; omega)
  omega
 ·obtain ⟨c,hc⟩:=sortedHeap_at (vs:=as.map Value.ref) (out:=out.toArray) hoL
  have hv:=L2.Nv he2
  have keep2:∀ b o,h'.get? b=some o→(sortedHeap (h'.push (seqObj "list" (as.map Value.ref).toArray 0)) h'.objs.size (as.map Value.ref) out.toArray).get? b=some o:=fun b u e=>by
   have hlt:=Heap.lt_size e
   rw [sortedHeap_old (Nat.ne_of_lt hlt) (by rw [size_push']; exact Nat.lt_succ_of_lt hlt)]
   exact Heap.get?_push_of_some _ e
  refine wpAny_pure ⟨_,rfl,.ref h'.objs.size,upd G' h'.objs.size (.lst ((((as.map V.ref).zip ds).mergeSort TV).map (·.1))),?_,rfl,q _ (J3.hok.fresh (Nat.le_refl _))⟩
  refine J3.laid (t':=tk) keep2 (Nat.le_refl _) ⟨?_,out,c,hv,hc⟩
  show ((((as.map V.ref).zip ds).mergeSort TV).map (·.1)).length≤sizeLine
  rw [List.length_map,List.length_mergeSort,← e1.length]
  exact hvz
end
end LiI
namespace FD
open PySem L2 PyProof.Rows PySem.Spec
def OX:Dt→Option (List Dt)
 | .dic ks ds=>Cw [.lst (c9 ks ds)]
 | _=>none
def O4(f:Env→Out Dt):Env→Out (List Dt):=fun ρ=>(f ρ).bind fun a=>GI (OX a)
theorem Wi{f:Env→Out Dt}{ρ:Env}:O4 f ρ=(f ρ).bind fun a=>GI (OX a):=rfl
theorem N8{G G':Hp}(k:Same G G'):∀ {us:List Addr} {es:List (Key × V)},Paired (fun (u:Addr) (z:Key × V)=>G u=some (.tup [kV z.1,z.2])) us es→Paired (fun (u:Addr) (z:Key × V)=>G' u=some (.tup [kV z.1,z.2])) us es
 | _,_,.nil=>.nil
 | _,_,.cons h t=>.cons (k _ _ h) (N8 k t)
section
variable {K:PySem.W.Frag} {W:WX} {la:List Nat}
theorem Wb{t:TE}{f:Env→Out Dt}(ha:D3 K W t f la):au K W (LiI.Xb K t) (O4 f) la:=by
 intro μ H0 A0 ρ σ H Q s h
 refine ha _ _ _ _ _ _ _ s (h.seq fun a ea h1 v1 H1 s1 r1=>?_)
 clear ea
 obtain ⟨ds,e,q⟩:=B6 h1
 cases a <;> try (cases e; done)
 rename_i ks es
 obtain ⟨a,kvs,rfl,g1,g2,g3⟩:=HL r1
 subst g2
 unfold OX Cw at e
 obtain ⟨es',e1,e⟩:=Option.bind_eq_some_iff.mp e
 cases e1
 obtain ⟨ps,e2,e⟩:=Option.bind_eq_some_iff.mp e
 obtain ⟨⟨h3,h4⟩,rfl⟩:=Bq e
 refine ⟨a,kvs,rfl,g1,fun G us keep hu hpair=>?_⟩
 have hus:∀ u∈us,¬ Av ⟨K,μ⟩ A0 ρ σ la u:=fun u hu'=>s.Oa (s1.free (hu u hu'))
 have rr:=Jh (g3.same keep) hpair hus
 unfold Ma at h4
 rw [Bool.and_eq_true,Bool.or_eq_true] at h4
 obtain ⟨h5,h6⟩:=h4
 refine ⟨ps,Ah.dN _ _ ps e2 rr,fun d hd d' hd'=>List.all_eq_true.mp (List.all_eq_true.mp h3 d hd) d' hd',?_,fun d hd=>of_decide_eq_true (List.all_eq_true.mp h6 d hd),fun p hp=>?_⟩
 ·rcases h5 with h5 | h5
  ·refine .inl fun d hd=>?_
   have:=List.all_eq_true.mp h5 d hd
   cases d <;> try (exact Bool.noConfusion this)
   rename_i l
   cases l with
   | nil=>exact Bool.noConfusion this
   | cons x l=>exact ⟨x,l,rfl⟩
  ·refine .inr fun d hd=>?_
   have:=List.all_eq_true.mp h5 d hd
   cases d <;> first | exact Bool.noConfusion this | exact ⟨(fun z=>nomatch z),(fun xs z=>nomatch z)⟩
 ·have hp1:H1 p=none:=by
   cases hx:H1 p with
   | none=>rfl
   | some o=>
    have:=keep p o hx
    rw [hp] at this
    cases this
  have kn:Same G (upd G p (.lst ((((us.map V.ref).zip ps).mergeSort TV).map (·.1)))):=Same.new hp
  have hne:∀ u∈us,u≠p:=fun u hu' e2=>by
   obtain ⟨_,_,_,_,e3⟩:=LiI.paired_ix hpair hu'
   rw [e2,hp] at e3
   cases e3
  have rr2:=Jh (((Ah.fresh hp1 _ _ g3).same keep).same kn) (N8 kn hpair) (fun u hu'=>by
   rintro (z | z)
   ·exact hus u hu' z
   ·exact hne u hu' z)
  have ee:=NA (ps:=ps) rr2
  have rs:=NL (PySem.W.sort_each (r:=TU) (s:=TV) ee fun p hp q hq=>by
   have a1:=(ee.zip p hp).2
   have a2:=(ee.zip q hq).2
   show jJ p.1.2 q.1.2=jJ p.2.2 q.2.2
   rw [a1,a2])
  exact q p _ _ ((s1.trans keep).trans kn) ((s1.trans keep).free hp) upd_same rs
end
theorem Zv{X:Cx}{W:WX}{a:Expr}{f:Env→Out Dt}{la:List Nat}{j:Nat}{q1 q2 q3 q4:Pos}(hr:Room j X.A)(ca:X.calm=true)(ha:Bv X W a f la)(gl:Gl X "sorted")(no:X.mg "sorted" = none)(b1:attributeBase a "items" X.env (eval a X.env)=eval a X.env:=by rfl)(ln:(q2.endLine == q3.line)=true:=by rfl)
  (st:starEach [.Call (.Attribute a "items" q2) [] [] q3] X.env=(false,eval (.Call (.Attribute a "items" q2) [] [] q3) X.env) :: starEach [] X.env:=by rfl):ZC X W (.Call (.Name "sorted" q1) [.Call (.Attribute a "items" q2) [] [] q3] [] q4) (O4 f) la:=by
 obtain ⟨t,p,d⟩:=ha
 exact ⟨_,LiI.Y2 (by have:=hr.un; omega) ca p gl no b1 ln st,Wb d⟩
end FD
namespace FD
open PySem L2 PyProof.Rows PySem.Spec
theorem Sb{X:Cx}{pins:List (Addr × Obj)}{σ:L2.St}{H:Hp}{s:Shared}(I:Inv X pins σ H s):∀ {ps:List Addr} {kvs:List (Key × V)},Paired (fun p kv=>SqT X.K H p [kV kv.1,kv.2]) ps kvs →
  ∃ (prs:List (Key × Value)) (vps:List (Value × Value)),KV kvs prs∧prs.length=ps.length∧vps.length=ps.length ∧
   ∀ (j:Nat) (u y:Value),vps[j]? = some (u,y)→∃ (b:Addr) (k:Key),ps[j]? = some b∧prs[j]? = some (k,y)∧IsTup s.heap b #[u,y]∧keyIs k u=true
 | _,_,.nil=>⟨[],[],.nil,rfl,rfl,fun j u y e=>by simp at e⟩
 | _,_,.cons (a:=p) (b:=kv) h t=>by
  obtain ⟨prs,vps,r,hl,hl2,hp⟩:=Sb I t
  obtain ⟨its,rv,ht,_⟩:=I.tuple h
  obtain ⟨u,y,ei,ru,ry⟩:=vals2 rv
  subst ei
  refine ⟨(kv.1,y) :: prs,(u,y) :: vps,.cons ⟨rfl,ry⟩ r,by rw [List.length_cons,List.length_cons,hl],by rw [List.length_cons,List.length_cons,hl2],fun j u' y' e=>?_⟩
  cases j with
  | zero=>
   have e':(u,y)=(u',y'):=Option.some.inj e
   cases e'
   exact ⟨p,kv.1,rfl,rfl,ht,kV_is (P:=X.prog) (w:=X.w) ru⟩
  | succ j=>
   obtain ⟨b,k,e1,e2,e3,e4⟩:=hp j u' y' (by simpa using e)
   exact ⟨b,k,by simpa using e1,by simpa using e2,e3,e4⟩
def WQ(K:PySem.W.Frag):List V→Hp→VK→Prop:=fun xs H Q=>∃ (a:Addr) (o:Obj) (ps:List Addr) (kvs:List (Key × V)),xs=[.ref a]∧H a=some (.frz o (.tup (ps.map V.ref)))∧o.dict=none ∧
 Paired (fun p kv=>SqT K H p [kV kv.1,kv.2]) ps kvs∧∀ p,H p=none→Q (.ref p) (upd H p (.dK (mergeK [] kvs)))
theorem QK{X:Cx}(hcalm:X.calm=true):CallR X (.type "dict") (WQ X.K):=by
 intro pins s σ H xs us Q I r q
 obtain ⟨a,o,ps,kvs,ex,hk,hd,hp,q⟩:=q
 subst ex
 obtain ⟨u,eu,rx⟩:=vals1 r
 subst eu
 cases rx
 obtain ⟨ho,hz,its,rv,o',ho',hc,n,hdat⟩:=(show ObjOk X.prog X.w H s.heap a (.frz o (.tup (ps.map V.ref))) from I.hok a _ hk)
 rw [ho] at ho'
 cases ho'
 have ei:=refs_at rv
 subst ei
 rw [List.length_map] at hz
 obtain ⟨prs,vps,rel,hl,hl2,hpr⟩:=Sb I hp
 refine _root_.PySem.call_dict_pairs (knd:=mixKind X.prog X.w) (kvs:=prs) (PairArg.tuple a (ps.map Value.ref).toArray (fun j=>ps.getD j 0) vps) (I.ok.hd hcalm) ⟨⟨o,n,ho,hc,hd,hdat⟩,by simp [hl2],fun j k v e=>?_⟩ ⟨by rw [hl,hl2],fun j k v e=>?_⟩ (by rw [hl2]; exact hz) fun h' tk hd' kp=>?_
 ·obtain ⟨b,k',e1,e2,e3,e4⟩:=hpr j k v e
  have eg:ps.getD j 0=b:=by rw [List.getD_eq_getElem?_getD,e1] <;> rfl
  show (ps.map Value.ref).toArray[j]? = some (Value.ref (ps.getD j 0))∧PairAt s.heap (ps.getD j 0) k v
  rw [eg]
  exact ⟨by simp [e1],.inl e3⟩
 ·obtain ⟨b,k',e1,e2,e3,e4⟩:=hpr j k v e
  exact ⟨k',e2,e4⟩
 ·have hm:(s.heap.objs.size == sysModules)=false:=beq_eq_false_iff_ne.mpr (Nat.ne_of_gt I.big)
  have hlen:(mergeK [] kvs).length≤sizeLine:=by
   refine Nat.le_trans (length_mergeK kvs []) ?_
   rw [List.length_nil,Nat.zero_add,rel.length,hl]
   exact hz
  exact ⟨.ref s.heap.objs.size,upd H s.heap.objs.size (.dK (mergeK [] kvs)),I.laid (t':=tk) (fun b u e=>kp b u (fun z=>nomatch z) e) (Nat.le_refl _) (show ObjOk X.prog X.w _ _ _ (.dK (mergeK [] kvs)) from ⟨hlen,hm,merged [] prs,KV.merge rel .nil,hd'⟩),rfl,q _ (I.hok.fresh (Nat.le_refl _))⟩
end FD
namespace FD
open PySem L2 PyProof.Rows PySem.Spec
def gW(K:PySem.W.Frag):List V→Hp→VK→Prop:=fun xs H Q=>∃ p ys,xs=[.ref p]∧SqL K H p ys∧∀ (l:Addr) (o:Obj),H l=none→o.dict=none→Q (.ref l) (upd H l (.frz o (.tup ys)))
theorem Y5{X:Cx}:CallR X (.type "tuple") (gW X.K):=by
 intro pins s σ H xs us Q I r h
 obtain ⟨p,ys,rfl,hq,q⟩:=h
 obtain ⟨u,rfl,rx⟩:=vals1 r
 cases rx
 obtain ⟨its,r',pl,hz⟩:=I.list hq
 have hlen:=r'.length
 refine call_tuple_list pl.isList (fun h' kp=>?_) (by simp only [List.size_toArray] <;> omega)
 have I1:Inv X pins σ H { s with heap:=h' }:=I.kept (t':=s.toks) kp
 have I2:Inv X pins σ (upd H h'.objs.size (.frz { cls:=.type "tuple",data:=.seq its.toArray } (.tup ys))) { s with heap:=h'.push { cls:=.type "tuple",data:=.seq its.toArray } }:=
  I1.laid (t':=s.toks) (fun b o e=>Heap.get?_push_of_some _ e) (Nat.le_refl _) (show ObjOk X.prog X.w _ _ _ (.frz { cls:=.type "tuple",data:=.seq its.toArray } (.tup ys)) from ⟨Heap.get?_push_size _ rfl,hz,its,r',IsTup.new _ _⟩)
 exact ⟨.ref h'.objs.size,_,I2,rfl,q _ _ (I1.hok.fresh (Nat.le_refl _)) rfl⟩
end FD
namespace FD
open PySem L2 PyProof.Rows PySem.Spec
def Kx:List Dt→Option Dt
 | [.lst ds]=>some (.ptp ds)
 | _=>none
theorem LH{ds:List Dt}:Kx [.lst ds]=some (.ptp ds):=rfl
theorem Zm{K:PySem.W.Frag}:Uc K (gW K) Kx:=by
 intro μ H A ds d vs Q ha r e q
 unfold Kx at e
 split at e
 ·rename_i es
  cases e
  obtain ⟨v,rfl,rr⟩:=Dg r
  obtain ⟨a,us,rfl,hs,r2⟩:=Nz (d:=.lst es) (ds:=es) rfl rr
  refine ⟨a,us,rfl,hs,fun l o hl ho=>q (.ref l) _ (Same.new hl) ?_⟩
  unfold Rep
  exact ⟨l,us,rfl,⟨fun z=>by have:=ha l z; rw [hl] at this; exact this,o,upd_same,ho⟩,r2.same (Same.new hl)⟩
 ·cases e
def prD:Dt→Option (Key × Dt)
 | .tup [.int i,d]=>some (.inl i,d)
 | .tup [.str s,d]=>some (.inr s,d)
 | _=>none
def YL:List Dt→Option (List (Key × Dt))
 | []=>some []
 | d :: ds=>(prD d).bind fun p=>(YL ds).map (p :: ·)
def Fg:List Dt→Option Dt
 | [.ptp ds]=>(YL ds).bind fun ps=>if (ps.map (·.1)).Nodup then some (.dic (ps.map (·.1)) (ps.map (·.2))) else none
 | _=>none
theorem jU{κ:KM}{H:Hp}{A:Ad}{d:Dt}{p:Key × Dt}{v:V}(h:prD d=some p)(r:Rep κ H A d v):∃ (a:Addr) (u:V),v=.ref a∧SqT κ.K H a [kV p.1,u]∧Rep κ H A p.2 u:=by
 unfold prD at h
 split at h
 ·cases h
  unfold Rep at r
  obtain ⟨a,vs,rfl,hs,r⟩:=r
  obtain ⟨x,y,rfl,r1,r2⟩:=P4 r
  have e:x=.int _:=r1
  subst e
  exact ⟨a,y,rfl,SqT.Zy hs,r2⟩
 ·cases h
  unfold Rep at r
  obtain ⟨a,vs,rfl,hs,r⟩:=r
  obtain ⟨x,y,rfl,r1,r2⟩:=P4 r
  have e:x=.str _:=r1
  subst e
  exact ⟨a,y,rfl,SqT.Zy hs,r2⟩
 ·cases h
theorem VT{κ:KM}{H:Hp}{A:Ad}:∀ {ds:List Dt} {ps:List (Key × Dt)} {vs:List V},YL ds=some ps→Ah κ H A ds vs→∃ (as:List Addr) (kvs:List (Key × V)),vs=as.map V.ref∧Paired (fun p kv=>SqT κ.K H p [kV kv.1,kv.2]) as kvs∧kvs.map (·.1)=ps.map (·.1)∧Ah κ H A (ps.map (·.2)) (kvs.map (·.2))
 | [],ps,vs,h,r=>by
  cases h
  unfold Ah at r
  subst r
  exact ⟨[],[],rfl,.nil,rfl,Ah.nil⟩
 | d :: ds,ps,vs,h,r=>by
  unfold YL at h
  obtain ⟨p,h1,h⟩:=Option.bind_eq_some_iff.mp h
  obtain ⟨ps',h2,rfl⟩:=Option.map_eq_some_iff.mp h
  unfold Ah at r
  obtain ⟨v,us,rfl,r1,r2⟩:=r
  obtain ⟨a,u,rfl,hs,ru⟩:=jU h1 r1
  obtain ⟨as,kvs,rfl,hp,hk,rr⟩:=VT h2 r2
  refine ⟨a :: as,(p.1,u) :: kvs,rfl,.cons hs hp,?_,?_⟩
  ·rw [List.map_cons,List.map_cons,hk]
  ·exact Ah.cons ru rr
theorem Kz:∀ (more acc:List (Key × V)),(acc.map (·.1) ++ more.map (·.1)).Nodup→mergeK acc more=acc ++ more
 | [],acc,_=>(List.append_nil acc).symm
 | p :: more,acc,h=>by
  have hn:(acc.any fun kv=>decide (kv.1=p.1))=false:=by
   rw [List.any_eq_false]
   intro kv hkv e
   have e':=of_decide_eq_true e
   exact (List.nodup_append.mp h).2.2 _ (List.mem_map.mpr ⟨kv,hkv,rfl⟩) _ List.mem_cons_self e'
  have e1:putK acc p.1 p.2=acc ++ [p]:=by
   unfold putK
   rw [hn,if_neg (by decide)]
  show mergeK (putK acc p.1 p.2) more=_
  rw [e1,Kz more (acc ++ [p]) (by rw [List.map_append,List.append_assoc]; exact h),List.append_assoc]
  rfl
theorem Yt{K:PySem.W.Frag}:Uc K (WQ K) Fg:=by
 intro μ H A ds d vs Q ha r e q
 unfold Fg at e
 split at e
 ·rename_i es
  obtain ⟨ps,e1,e⟩:=Option.bind_eq_some_iff.mp e
  obtain ⟨hn,rfl⟩:=Bq e
  obtain ⟨v,rfl,rr⟩:=Dg r
  unfold Rep at rr
  obtain ⟨a,us,rfl,⟨_,o,ho,hd⟩,r2⟩:=rr
  obtain ⟨as,kvs,rfl,hp,hk,r3⟩:=VT e1 r2
  refine ⟨a,o,as,kvs,rfl,ho,hd,hp,fun p hnew=>q (.ref p) _ (Same.new hnew) ?_⟩
  have hm:mergeK [] kvs=kvs:=by
   have:=Kz kvs [] (by rw [List.map_nil,List.nil_append,hk]; exact hn)
   rw [this,List.nil_append]
  rw [hm]
  unfold Rep
  exact ⟨p,kvs,rfl,fun z=>by have:=ha p z; rw [hnew] at this; exact this,.inl upd_same,hk,r3.same (Same.new hnew)⟩
 ·cases e
section
variable {X:Cx} {W:WX} {e:Expr} {fs:Env→Out (List Dt)} {lk:List Nat} {p pos:Pos}
theorem P8(hg:Gl X "tuple")(hm:X.mg "tuple" = none)(ha:JN X W [e] fs lk)(he:starEach [e] X.env=(false,eval e X.env) :: starEach [] X.env:=by rfl):Bv X W (.Call (.Name "tuple" p) [e] [] pos) (eB Kx fs) lk:=by
 obtain ⟨ta,pa,da⟩:=ha
 exact ⟨_,pe_callTy Y5 hg hm (by decide +kernel) pa (by decide) (by decide) he rfl,XF Zm da⟩
theorem UZ(hc:X.calm=true)(hg:Gl X "dict")(hm:X.mg "dict" = none)(ha:JN X W [e] fs lk)(he:starEach [e] X.env=(false,eval e X.env) :: starEach [] X.env:=by rfl):Bv X W (.Call (.Name "dict" p) [e] [] pos) (eB Fg fs) lk:=by
 obtain ⟨ta,pa,da⟩:=ha
 exact ⟨_,pe_callTy (QK hc) hg hm (by decide +kernel) pa (by decide) (by decide) he rfl,XF Yt da⟩
end
end FD
namespace FD
open PySem L2 PyProof.Rows PySem.Spec
theorem Ph(p:Str × NameKind→Bool):∀ (names:List (Str × NameKind)) (x:Str),(names.lookup x=some .cell∨names.lookup x=some .free) →
  ((names.map fun y=>if (y.2 == .free && p y)=true then (y.1,NameKind.cell) else (y.1,y.2)).lookup x=some .cell∨(names.map fun y=>if (y.2 == .free && p y)=true then (y.1,NameKind.cell) else (y.1,y.2)).lookup x=some .free)
 | [],x,h=>by simp at h
 | (n,k) :: r,x,h=>by
  rw [List.map_cons]
  by_cases e:x=n
  ·subst e
   have hk:k=.cell∨k=.free:=by simpa using h
   rcases hk with rfl | rfl
   ·exact .inl (by simp)
   ·by_cases z:p (x,NameKind.free)=true
    ·exact .inl (by simp [z])
    ·exact .inr (by simp [z])
  ·have nb:(x == n)=false:=by simpa using e
   have h':r.lookup x=some .cell∨r.lookup x=some .free:=by simpa [List.lookup_cons,nb] using h
   have q:=Ph p r x h'
   have t:∀ k',List.lookup x ((n,k') :: (r.map fun y=>if (y.2 == .free && p y)=true then (y.1,NameKind.cell) else (y.1,y.2)))=(r.map fun y=>if (y.2 == .free && p y)=true then (y.1,NameKind.cell) else (y.1,y.2)).lookup x:=fun k'=>by rw [List.lookup_cons,nb]
   split
   ·rw [t]; exact q
   ·rw [t]; exact q
theorem Gk{X:Cx}{s:Shared}{H:Hp}{scope scope2:Scope}{C:Addr}{cl:List (Str × Addr)}{fp:List Addr}{own:List (Str × Nat)}(N:List Str)(hN:X.N=N)(h:blkC N scope scope2 own=true):
  BlkOk (X.blk s H scope (compEnvC scope cl C X.env) fp).N (X.blk s H scope (compEnvC scope cl C X.env) fp).env.scope scope2 own:=by
 subst hN
 have b:=blkOk_by h
 obtain ⟨h1,h2,h3,h4,h5⟩:=b
 refine ⟨h1,h2,h3,fun y hy e=>?_,h5⟩
 have q:=Ph (fun y=>X.env.scope.kind == .function && X.env.kindOf y.1 == some .cell) scope.names y.1 (h4 y hy e)
 simp only [← Bool.and_assoc] at q
 exact q
end FD
namespace HotL
open PySem L2 L2H PySem.Spec PyProof.Rows HotX
abbrev St:=L2.St
section
variable {prog:Program} {w:World} {A:Around} {E:Value→Shared→Prop} {s:Shared}
end
def c7(X:Cx)(x1:Addr):Prop:=X.A.handled=some (.ref x1)∧(∃ (o:Obj) (vs:Array Value),X.s_0.heap.get? x1=some o∧o.data=.fields vs∧vs[2]? = some .none)∧X.H_0 x1=none∧x1∉X.fs∧x1∉X.ex
theorem c7.at{X:Cx}{x1:Addr}{pins:List (Addr × Obj)}{σ:St}{H:Hp}{s:Shared}(b:c7 X x1)(I:Inv X pins σ H s):HotAt X.A x1 s.heap:=by
 obtain ⟨hh,⟨o,vs,e,d,c⟩,hn,hf,he⟩:=b
 exact ⟨hh,o,vs,I.base.keep x1 o e hn hf he,d,c⟩
def f7(X:Cx):Prop:=HotC X∨∃ x1,c7 X x1
theorem f7.at{X:Cx}{pins:List (Addr × Obj)}{σ:St}{H:Hp}{s:Shared}(c:f7 X)(I:Inv X pins σ H s):∃ x1,HotAt X.A x1 s.heap:=by
 rcases c with c | ⟨x1,b⟩
 ·exact c.at I
 ·exact ⟨x1,b.at I⟩
theorem HotC.blk{X:Cx}{pins:List (Addr × Obj)}{σ:St}{H:Hp}{s:Shared}{scope:Scope}{ce:Env}{fp:List Addr}(c:HotC X)(I:Inv X pins σ H s)(hfp:∀ b∈fp,FpOk X pins H b):∃ x1,c7 (X.blk s H scope ce fp) x1:=by
 obtain ⟨p,⟨hh,v1,e1,c1⟩,hp⟩:=c
 obtain ⟨g,n,nl,nf,_⟩:=I.pin p (List.mem_append_left _ hp)
 refine ⟨p.1,hh,⟨p.2,v1,g,e1,c1⟩,n,fun z=>?_,fun z=>(hfp _ z).2.2.2.2.2 p (List.mem_append_left _ hp) rfl⟩
 have z:p.1∈frs X.stack:=z
 rcases I.ok.stk with e | ⟨e,ef⟩
 ·rw [e] at z; exact nf z
 ·rw [e] at z
  have z':p.1∈X.env.locals :: frs X.outer:=by
   have:frs (X.env :: X.outer)=X.env.locals :: frs X.outer:=by simp [frs,ef]
   rw [← this]; exact z
  rcases List.mem_cons.mp z' with z | z
  ·exact nl z
  ·exact nf z
section
variable {X:Cx}
end
end HotL
namespace HotL
open PySem PySem.Calls PyProof.Rows PyProof.V PySem.Spec HotX PySem.W
section
variable {prog:Program} {w:World} {K:Type} [DecidableEq K] {knd:KeyKind prog w K} {A:Around} {E:Value→Shared→Prop} {s:Shared} {kvs:List (K × Value)} {ep:Nat}
end
end HotL
namespace HotL
open PySem L2 L2H PySem.Spec PyProof.Rows HotX
end HotL
namespace FD
open PySem L2 PyProof.Rows PySem.Spec HotL
section
variable {K:PySem.W.Frag} {W:WX} {lk:List Nat}
end
section
variable {X:Cx} {W:WX}
end
end FD
namespace FD
open PySem L2 PyProof.Rows PySem.Spec
def f6:Cell→Option Dt
 | .lst ds=>some (.lst ds)
 | .dic ks ds=>some (.dic ks ds)
 | _=>none
def ja(n:Nat)(d:Dt)(ρ:Env):Option (Dt × Env):=match d with
 | .ad k=>(Ed n ρ).bind fun cs=>(cs[k]?).bind fun c=>(f6 c).map fun e=>(e,ρ.set n (some (.mh (cs.set k .gone))))
 | d=>some (d,ρ)
section
variable {K:PySem.W.Frag} {S:List Nat} {σ:L2.St} {μ μ':Mu} {H H' H0:Hp} {ρ ρ':Env} {A0:Ad} {lk la lb:List Nat} {W:WX} {d e:Dt} {v:V} {cs cs':List Cell} {n k:Nat} {c:Cell} {a:Addr}
theorem L9(s:StOk ⟨K,μ⟩ H0 A0 H ρ σ){k:Nat}{ks:List Key}{ds:List Dt}{b:Addr}(ec:Ed n ρ=some cs)(e1:cs[k]? = some (.dic ks ds))(eb:μ.l[k]? = some b):∃ kvs,H b=some (.dK kvs)∧H0 b=none∧kvs.map (·.1)=ks∧Ah ⟨K,μ⟩ H (Av ⟨K,μ⟩ A0 ρ σ []) ds (kvs.map (·.2)):=by
 obtain ⟨_,_,hc⟩:=s.lo n _ (Dm ec)
 obtain ⟨z,kvs,h1,h2,r⟩:=hc k _ b e1 eb
 exact ⟨kvs,h1,z,h2,r⟩
theorem c8(s:StOk ⟨K,μ⟩ H0 A0 H ρ σ)(h:ja n d ρ=some (e,ρ'))(r:Rep ⟨K,μ⟩ H (Av ⟨K,μ⟩ A0 ρ σ []) d v):
  StOk ⟨K,μ⟩ H0 A0 H ρ' σ∧(∀ j b,Bw ⟨K,μ⟩ ρ' σ j b→Bw ⟨K,μ⟩ ρ σ j b)∧(∀ j,j≠n→ρ'[j]? = ρ[j]?)∧Rep ⟨K,μ⟩ H (Av ⟨K,μ⟩ A0 ρ' σ []) e v:=by
 cases d with
 | ad k=>
  unfold ja at h
  obtain ⟨cs,ec,h⟩:=Option.bind_eq_some_iff.mp h
  obtain ⟨c,e1,h⟩:=Option.bind_eq_some_iff.mp h
  have e0:=Dm ec
  unfold Rep at r
  obtain ⟨b,eb,rfl⟩:=r
  cases c with
  | gone=>cases h
  | ins C ns ds=>cases h
  | lst ds=>
   cases h
   obtain ⟨s2,ow⟩:=s.gvC e0 e1 rfl eb
   obtain ⟨vs,h1,h2,r2⟩:=NZ s ec e1 eb
   refine ⟨s2,fun j b h=>(ow j b h).1,fun j hj=>List.getElem?_set_ne (fun z=>hj z.symm),?_⟩
   unfold Rep
   refine ⟨b,vs,rfl,fun z=>?_,h1,r2.BZ fun a z=>z.imp id fun ⟨j,nj,o⟩=>⟨j,nj,(ow j a o).1⟩⟩
   rcases z with z | ⟨j,_,o⟩
   ·have q:=s.a0 b z
    rw [h2] at q
    exact Nh q rfl
   ·exact (ow j b o).2 rfl
  | dic ks ds=>
   cases h
   obtain ⟨s2,ow⟩:=s.gvC e0 e1 rfl eb
   obtain ⟨kvs,h1,h2,h3,r2⟩:=L9 s ec e1 eb
   refine ⟨s2,fun j b h=>(ow j b h).1,fun j hj=>List.getElem?_set_ne (fun z=>hj z.symm),?_⟩
   unfold Rep
   refine ⟨b,kvs,rfl,fun z=>?_,.inl h1,h3,r2.BZ fun a z=>z.imp id fun ⟨j,nj,o⟩=>⟨j,nj,(ow j a o).1⟩⟩
   rcases z with z | ⟨j,_,o⟩
   ·have q:=s.a0 b z
    rw [h2] at q
    exact Nh q rfl
   ·exact (ow j b o).2 rfl
 | _=>
  cases h
  exact ⟨s,fun _ _ h=>h,fun _ _=>rfl,r⟩
end
end FD
namespace FD
open PySem L2 PyProof.Rows PySem.Spec
def cellK:Cell→Option (List Dt)
 | .dic ks _=>some (ks.map IW)
 | _=>none
def II(n i:Nat):Env→Out (List Dt):=fun ρ=>match ρ[i]? with
 | some (some (.sh (.ad k)))=>GI ((Ed n ρ).bind fun cs=>(cs[k]?).bind cellK)
 | _=>.bad
section
variable {K:PySem.W.Frag} {W:WX}
theorem YJ(n i:Nat):au K W (tCB V3 (tCons (tVar i) tNil)) (II n i) []:=by
 intro μ H0 A0 ρ σ H Q s h
 unfold II at h
 split at h
 ·rename_i k e
  obtain ⟨es,e2,q⟩:=B6 h
  obtain ⟨cs,ec,e3⟩:=Option.bind_eq_some_iff.mp e2
  obtain ⟨c,e1,e4⟩:=Option.bind_eq_some_iff.mp e3
  obtain ⟨v,e5,r⟩:=s.lo i _ e
  unfold Rep at r
  obtain ⟨b,eb,rfl⟩:=r
  cases c with
  | gone=>cases e4
  | lst ds=>cases e4
  | ins C ns ds=>cases e4
  | dic ks ds=>
   cases e4
   obtain ⟨kvs,h1,h2,h3,r2⟩:=L9 s ec e1 eb
   subst h3
   refine ⟨_,e5,b,kvs,rfl,?_,fun p hp=>?_⟩
   ·exact Rd.of h1
   ·exact q p _ _ (Same.new hp) hp upd_same ((Ah.fresh hp _ _ (NU kvs)).same (Same.new hp))
 ·exact False.elim h
end
theorem Ye{X:Cx}{W:WX}(n i:Nat){x:Str}{p pos q:Pos}(hc:X.calm=true)(hg:Gl X "list")(hm:X.mg "list" = none)(hN:X.N[i]? = some x:=by rfl)(hv:Vis X.env.scope x:=by first | exact Or.inl rfl | exact Or.inr (Or.inl rfl) | exact Or.inr (Or.inr rfl))(hd:(x == ("__debug__" : Str))=false:=by decide)
  (hcd:(x == ("__classdict__" : Str))=false:=by decide):ZC X W (.Call (.Name "list" p) [.Name x q] [] pos) (II n i) []:=
 ⟨_,pe_callTy (PF hc) hg hm boot_list (pa_cons (pe_var hN hv hd hcd) pa_nil) (by decide) (by decide) rfl rfl,YJ n i⟩
end FD
namespace FD
open PySem L2 PyProof.Rows PySem.Spec
section
variable {K:PySem.W.Frag} {W:WX} {lb:List Nat}
end
end FD
namespace FD
open PySem L2 PyProof.Rows PySem.Spec
def Lk(o o':HO):Prop:=o'=o∨∃ (kvs:List (Key × V)) (ob:Obj),(o=.dK kvs∧o'=.frz ob (.dK kvs))∨(o=.frz ob (.dK kvs)∧o'=.dK kvs)
def N7(A:Ad)(H H':Hp):Prop:=∀ a o,¬ A a→H a=some o→∃ o',H' a=some o'∧Lk o o'
theorem N7.tup{A:Ad}{H H':Hp}(h:N7 A H H'){a:Addr}{vs:List V}(n:¬ A a)(e:H a=some (.tup vs)):H' a=some (.tup vs):=by
 obtain ⟨o',e',q⟩:=h a _ n e
 rcases q with rfl | ⟨kvs,ob,⟨z,_⟩ | ⟨z,_⟩⟩
 ·exact e'
 ·cases z
 ·cases z
theorem N7.lst{A:Ad}{H H':Hp}(h:N7 A H H'){a:Addr}{vs:List V}(n:¬ A a)(e:H a=some (.lst vs)):H' a=some (.lst vs):=by
 obtain ⟨o',e',q⟩:=h a _ n e
 rcases q with rfl | ⟨kvs,ob,⟨z,_⟩ | ⟨z,_⟩⟩
 ·exact e'
 ·cases z
 ·cases z
theorem N7.ftup{A:Ad}{H H':Hp}(h:N7 A H H'){a:Addr}{vs:List V}{ob:Obj}(n:¬ A a)(e:H a=some (.frz ob (.tup vs))):H' a=some (.frz ob (.tup vs)):=by
 obtain ⟨o',e',q⟩:=h a _ n e
 rcases q with rfl | ⟨kvs,ob,⟨z,_⟩ | ⟨z,_⟩⟩
 ·exact e'
 ·cases z
 ·cases z
theorem N7.flst{A:Ad}{H H':Hp}(h:N7 A H H'){a:Addr}{vs:List V}{ob:Obj}(n:¬ A a)(e:H a=some (.frz ob (.lst vs))):H' a=some (.frz ob (.lst vs)):=by
 obtain ⟨o',e',q⟩:=h a _ n e
 rcases q with rfl | ⟨kvs,ob,⟨z,_⟩ | ⟨z,_⟩⟩
 ·exact e'
 ·cases z
 ·cases z
theorem N7.ins{A:Ad}{H H':Hp}(h:N7 A H H'){a C dx:Addr}{fs:List (Str × V)}(n:¬ A a)(e:H a=some (.ins C dx fs)):H' a=some (.ins C dx fs):=by
 obtain ⟨o',e',q⟩:=h a _ n e
 rcases q with rfl | ⟨kvs,ob,⟨z,_⟩ | ⟨z,_⟩⟩
 ·exact e'
 ·cases z
 ·cases z
theorem N7.xd{A:Ad}{H H':Hp}(h:N7 A H H'){a:Addr}{fs:List (Str × V)}(n:¬ A a)(e:H a=some (.xd fs)):H' a=some (.xd fs):=by
 obtain ⟨o',e',q⟩:=h a _ n e
 rcases q with rfl | ⟨kvs,ob,⟨z,_⟩ | ⟨z,_⟩⟩
 ·exact e'
 ·cases z
 ·cases z
theorem N7.dk{A:Ad}{H H':Hp}(h:N7 A H H'){a:Addr}{kvs:List (Key × V)}(n:¬ A a)(e:Vk H a kvs):Vk H' a kvs:=by
 rcases e with e | ⟨ob1,e⟩
 ·obtain ⟨o',e',q⟩:=h a _ n e
  rcases q with rfl | ⟨kvs,ob,⟨z,rfl⟩ | ⟨z,_⟩⟩
  ·exact .inl e'
  ·cases z
   exact .inr ⟨ob,e'⟩
  ·cases z
 ·obtain ⟨o',e',q⟩:=h a _ n e
  rcases q with rfl | ⟨kvs,ob,⟨z,_⟩ | ⟨z,rfl⟩⟩
  ·exact .inr ⟨_,e'⟩
  ·cases z
  ·cases z
   exact .inl e'
theorem N7.dt{A:Ad}{H H':Hp}(h:N7 A H H'){a:Addr}{kvs:List (List Key × V)}(n:¬ A a)(e:UI H a kvs):UI H' a kvs:=by
 rcases e with e | ⟨ob1,e⟩
 ·obtain ⟨o',e',q⟩:=h a _ n e
  rcases q with rfl | ⟨kvs,ob,⟨z,_⟩ | ⟨z,_⟩⟩
  ·exact .inl e'
  ·cases z
  ·cases z
 ·obtain ⟨o',e',q⟩:=h a _ n e
  rcases q with rfl | ⟨kvs,ob,⟨z,_⟩ | ⟨z,_⟩⟩
  ·exact .inr ⟨_,e'⟩
  ·cases z
  ·cases z
section
variable {K:KM} {H H':Hp} {A:Ad}
mutual
theorem Rep.lk(h:N7 A H H'):∀ (d:Dt) (v:V),Rep K H A d v→Rep K H' A d v
 | .non,_,r=>r
 | .bl _,_,r=>r
 | .int _,_,r=>r
 | .str _,_,r=>r
 | .ty _,_,r=>r
 | .cls _,_,r=>r
 | .ad k,_,r=>by
  unfold Rep at r ⊢
  exact r
 | .tup ds,_,r=>by
  unfold Rep at r ⊢
  obtain ⟨a,vs,e,h1,h2⟩:=r
  exact ⟨a,vs,e,h1.imp (fun ⟨x,y⟩=>⟨x,h.tup x y⟩) id,Ah.lk h ds vs h2⟩
 | .ptp ds,_,r=>by
  unfold Rep at r ⊢
  obtain ⟨a,vs,e,⟨x,o,y,yd⟩,h2⟩:=r
  exact ⟨a,vs,e,⟨x,o,h.ftup x y,yd⟩,Ah.lk h ds vs h2⟩
 | .ntp ds,_,r=>by
  unfold Rep at r ⊢
  obtain ⟨a,vs,e,⟨x,y⟩,h2⟩:=r
  exact ⟨a,vs,e,⟨x,h.tup x y⟩,Ah.lk h ds vs h2⟩
 | .lst ds,_,r=>by
  unfold Rep at r ⊢
  obtain ⟨a,vs,e,x,y,h2⟩:=r
  exact ⟨a,vs,e,x,h.lst x y,Ah.lk h ds vs h2⟩
 | .fls ds,_,r=>by
  unfold Rep at r ⊢
  obtain ⟨a,vs,e,h1,h2⟩:=r
  exact ⟨a,vs,e,h1.imp (fun ⟨x,o,y⟩=>⟨x,o,h.flst x y⟩) id,Ah.lk h ds vs h2⟩
 | .dic ks ds,_,r=>by
  unfold Rep at r ⊢
  obtain ⟨a,kvs,e,x,y,e2,h2⟩:=r
  exact ⟨a,kvs,e,x,h.dk x y,e2,Ah.lk h ds _ h2⟩
 | .dit ks ds,_,r=>by
  unfold Rep at r ⊢
  obtain ⟨a,kvs,e,x,y,e2,h2⟩:=r
  exact ⟨a,kvs,e,x,h.dt x y,e2,Ah.lk h ds _ h2⟩
 | .obj C ns ds,_,r=>by
  unfold Rep at r ⊢
  obtain ⟨a,dx,fs,e,x,y,e2,h2⟩:=r
  exact ⟨a,dx,fs,e,x,h.ins x y,e2,Ah.lk h ds _ h2⟩
 | .exn a od _ ns ds,_,r=>by
  unfold Rep at r ⊢
  obtain ⟨fs,e,h1,e2,h2⟩:=r
  exact ⟨fs,e,h1.imp id (fun ⟨d,e,x,y⟩=>⟨d,e,x,h.xd x y⟩),e2,Ah.lk h ds _ h2⟩
theorem Ah.lk(h:N7 A H H'):∀ (ds:List Dt) (vs:List V),Ah K H A ds vs→Ah K H' A ds vs
 | [],_,r=>by
  unfold Ah at r ⊢
  exact r
 | d :: ds,_,r=>by
  unfold Ah at r ⊢
  obtain ⟨v,vs,e,r1,r2⟩:=r
  exact ⟨v,vs,e,Rep.lk h d v r1,Ah.lk h ds vs r2⟩
end
end
end FD
namespace FD
open PySem L2 PyProof.Rows PySem.Spec
section
variable {K:KM} {H H' H0 H0':Hp} {A:Ad} {l:Lo} {sv:Option (Option V)} {c:Cell} {a:Addr}
def il(o:HO):Prop:=∀ ob u,o≠.frz ob u
theorem G5.lk(h:N7 A H H')(ho:c.live=true→∀ o,H a=some o→il o→H' a=some o)(h0:c.live=true→H0 a=none→H0' a=none)(r:G5 K H0 H A c a):G5 K H0' H' A c a:=by
 cases c with
 | gone=>exact r
 | lst ds=>obtain ⟨z,vs,e,r⟩:=r; exact ⟨h0 rfl z,vs,ho rfl _ e (fun _ _ q=>nomatch q),Ah.lk h _ _ r⟩
 | dic ks ds=>obtain ⟨z,vs,e,e2,r⟩:=r; exact ⟨h0 rfl z,vs,ho rfl _ e (fun _ _ q=>nomatch q),e2,Ah.lk h _ _ r⟩
 | ins C ns ds=>obtain ⟨z,dx,fs,e,e2,r⟩:=r; exact ⟨h0 rfl z,dx,fs,ho rfl _ e (fun _ _ q=>nomatch q),e2,Ah.lk h _ _ r⟩
theorem FA.lk(h:N7 A H H')(ho:∀ a,Dw K l sv a→∀ o,H a=some o→il o→H' a=some o)(h0:∀ a,Dw K l sv a→H0 a=none→H0' a=none)(r:FA K H0 H A l sv):FA K H0' H' A l sv:=by
 cases l with
 | sh d=>obtain ⟨v,e,r⟩:=r; exact ⟨v,e,Rep.lk h _ _ r⟩
 | ol ds=>obtain ⟨a,vs,e,z,e1,r⟩:=r; exact ⟨a,vs,e,h0 a e z,ho a e _ e1 (fun _ _ q=>nomatch q),Ah.lk h _ _ r⟩
 | od ks ds=>obtain ⟨a,vs,e,z,e1,e2,r⟩:=r; exact ⟨a,vs,e,h0 a e z,ho a e _ e1 (fun _ _ q=>nomatch q),e2,Ah.lk h _ _ r⟩
 | ot ks ds=>obtain ⟨a,vs,e,z,e1,e2,r⟩:=r; exact ⟨a,vs,e,h0 a e z,ho a e _ e1 (fun _ _ q=>nomatch q),e2,Ah.lk h _ _ r⟩
 | mh cs=>
  obtain ⟨r1,r2,r3⟩:=r
  exact ⟨r1,r2,fun k c a e1 e2=>(r3 k c a e1 e2).lk h (fun hv=>ho a ⟨k,c,e1,hv,e2⟩) (fun hv=>h0 a ⟨k,c,e1,hv,e2⟩)⟩
end
section
variable {K:PySem.W.Frag} {μ μ':Mu} {H H' H0:Hp} {A0:Ad} {ρ ρ':Env} {σ σ':L2.St} {d:Addr} {kvs:List (Key × V)}
noncomputable def gJ(H0:Hp)(d:Addr)(u:HO):Hp:=fun a=>if a=d then some u else H0 a
theorem PY{u:HO}{a:Addr}(h:a≠d):gJ H0 d u a=H0 a:=if_neg h
theorem QX{u:HO}:gJ H0 d u d=some u:=if_pos rfl
theorem StOk.lock(s:StOk ⟨K,μ⟩ H0 A0 H ρ σ)(ob:Obj)(hd:H d=some (.dK kvs))(nd:¬ Av ⟨K,μ⟩ A0 ρ σ [] d):
  StOk ⟨K,μ⟩ (gJ H0 d (.frz ob (.dK kvs))) A0 (upd H d (.frz ob (.dK kvs))) ρ σ:=by
 have ls:N7 (Av ⟨K,μ⟩ A0 ρ σ []) H (upd H d (.frz ob (.dK kvs))):=fun a o _ e=>by
  by_cases h:a=d
  ·subst h
   rw [hd] at e
   cases e
   exact ⟨_,upd_same,.inr ⟨kvs,ob,.inl ⟨rfl,rfl⟩⟩⟩
  ·exact ⟨o,by rw [upd_ne h]; exact e,.inl rfl⟩
 have own:∀ i a,Bw ⟨K,μ⟩ ρ σ i a→a≠d:=fun i a o z=>nd (by rw [← z]; exact .inr ⟨i,(fun q=>nomatch q),o⟩)
 refine ⟨fun a o e=>?_,fun a h=>?_,s.len,fun i l e=>?_,s.ap,s.one,s.nm⟩
 ·by_cases h:a=d
  ·subst h
   rw [QX] at e
   cases e
   exact upd_same
  ·rw [PY h] at e
   rw [upd_ne h]
   exact s.same a o e
 ·rw [PY (fun z=>nd (by rw [← z]; exact .inl h))]
  exact s.a0 a h
 ·exact (s.lo i l e).lk ls (fun a o w ew _=>by rw [upd_ne (own i a ⟨l,e,o⟩)]; exact ew) fun a o z=>by rw [PY (own i a ⟨l,e,o⟩)]; exact z
theorem StOk.unlock(s:StOk ⟨K,μ⟩ H0 A0 H ρ σ)(ob:Obj)(hd:H d=some (.dK kvs))(s':StOk ⟨K,μ'⟩ (gJ H0 d (.frz ob (.dK kvs))) A0 H' ρ' σ')(hd':H' d=some (.frz ob (.dK kvs))):
  StOk ⟨K,μ'⟩ H0 A0 (upd H' d (.dK kvs)) ρ' σ':=by
 have ls:N7 (Av ⟨K,μ'⟩ A0 ρ' σ' []) H' (upd H' d (.dK kvs)):=fun a o _ e=>by
  by_cases h:a=d
  ·subst h
   rw [hd'] at e
   cases e
   exact ⟨_,upd_same,.inr ⟨kvs,ob,.inr ⟨rfl,rfl⟩⟩⟩
  ·exact ⟨o,by rw [upd_ne h]; exact e,.inl rfl⟩
 have nf:∀ a o,H' a=some o→il o→a≠d:=fun a o e n z=>by
  subst z
  rw [hd'] at e
  cases e
  exact n _ _ rfl
 refine ⟨fun a o e=>?_,s.a0,s'.len,fun i l e=>?_,s'.ap,s'.one,s'.nm⟩
 ·by_cases h:a=d
  ·subst h
   have q:=s.same a o e
   rw [hd] at q
   rw [upd_same]
   exact q
  ·rw [upd_ne h]
   exact s'.same a o (by rw [PY h]; exact e)
 ·refine (s'.lo i l e).lk ls (fun a o w ew n=>by rw [upd_ne (nf a w ew n)]; exact ew) fun a o z=>?_
  by_cases h:a=d
  ·subst h
   rw [QX] at z
   cases z
  ·rw [PY h] at z
   exact z
end
end FD
namespace FD
open PySem L2 PyProof.Rows PySem.Spec
def CO(i:Nat):Env→Out (List Dt):=fun ρ=>match ρ[i]? with
 | some (some (.sh (.dic ks _)))=>.ok (ks.map IW)
 | _=>.bad
def DU(i:Nat)(u:Dt→Env→Option Env)(b:Env→SOut):Env→SOut:=fun ρ=>match AW u (CO i) [i] b ρ with
 | .exc _ _=>.bad
 | r=>r
def kK(t:TS):TS:=fun D σ H=>t D σ H∨tLock t D σ H
theorem iD{X:Cx}{st:Stmt}{t:TS}(h:PS X st t):PS X st (kK t):=⟨fun pins s σ H D I hw=>hw.elim (fun hw=>h.run pins s σ H D I hw) fun hw=>(ps_lock h).run pins s σ H D I hw⟩
def lkD(D:Ends)(d:Addr)(od:Obj)(u:HO):Ends:=⟨fun σ' H'=>H' d=some (.frz od u)∧D.nx σ' (upd H' d u),fun v H'=>H' d=some (.frz od u)∧D.rt v (upd H' d u),fun σ' H'=>H' d=some (.frz od u)∧D.bk σ' (upd H' d u),fun σ' H'=>H' d=some (.frz od u)∧D.ct σ' (upd H' d u)⟩
section
variable {K:PySem.W.Frag} {W:WX} {μ μ':Mu} {H H' H0:Hp} {A0:Ad} {ρ ρ':Env} {σ σ':L2.St} {d:Addr} {kvs:List (Key × V)} {D:Ends}
theorem N7.un{A:Ad}{ob:Obj}(hd':H' d=some (.frz ob (.dK kvs))):N7 A H' (upd H' d (.dK kvs)):=fun a o _ e=>by
 by_cases h:a=d
 ·subst h
  rw [hd'] at e
  cases e
  exact ⟨_,upd_same,.inr ⟨kvs,ob,.inr ⟨rfl,rfl⟩⟩⟩
 ·exact ⟨o,by rw [upd_ne h]; exact e,.inl rfl⟩
theorem A9.lock(s:StOk ⟨K,μ⟩ H0 A0 H ρ σ)(ob:Obj)(hd:H d=some (.dK kvs)){o:SOut}(hx:∀ x ρ',o≠.exc x ρ')(h:A9 K W μ H0 A0 o D):A9 K W μ (gJ H0 d (.frz ob (.dK kvs))) A0 o (lkD D d ob (.dK kvs)):=by
 have z:∀ {μ':Mu} {ρ':Env} {σ':L2.St} {H':Hp},StOk ⟨K,μ'⟩ (gJ H0 d (.frz ob (.dK kvs))) A0 H' ρ' σ'→H' d=some (.frz ob (.dK kvs))∧StOk ⟨K,μ'⟩ H0 A0 (upd H' d (.dK kvs)) ρ' σ':=fun s'=>by
  have e:=s'.same d _ QX
  exact ⟨e,s.unlock ob hd s' e⟩
 match o,hx,h with
 | .ok .nx ρ1,_,h=>exact fun μ' σ' H' x s'=>⟨(z s').1,h μ' σ' _ x (z s').2⟩
 | .ok .bk ρ1,_,h=>exact fun μ' σ' H' x s'=>⟨(z s').1,h μ' σ' _ x (z s').2⟩
 | .ok .ct ρ1,_,h=>exact fun μ' σ' H' x s'=>⟨(z s').1,h μ' σ' _ x (z s').2⟩
 | .ok (.rt e) ρ1,_,h=>exact fun μ' v σ' H' x s' r=>⟨(z s').1,h μ' v σ' _ x (z s').2 (Rep.lk (N7.un (z s').1) _ _ r)⟩
 | .exc x ρ1,hx,_=>exact absurd rfl (hx x ρ1)
theorem Jv(i:Nat)(a:Addr)(ob:Obj)(e:σ[i]? = some (some (.ref a)))(hH:H a=some (.frz ob (.dK kvs))):gH K W (fun σ' H' R=>σ'=σ→H'=H→iKeys (tVar i) σ' H' R) (CO i) [i]:=by
 intro μ H0 A0 ρ σ' H' R s h e1 e2
 subst e1 e2
 unfold CO at h
 split at h
 ·rename_i ks ds e3
  obtain ⟨v,e4,r⟩:=s.lo i _ e3
  rw [e] at e4
  cases e4
  unfold Rep at r
  obtain ⟨b,kvs',eb,nA,g1,g2,g3⟩:=r
  cases eb
  have ek:kvs'=kvs:=by
   rcases g1 with g1 | ⟨o2,g1⟩ <;> rw [hH] at g1 <;> cases g1 <;> rfl
  subst ek
  subst g2
  have hB:Bs ⟨K,μ⟩ H' ρ σ' [i] a=some (.frz ob (.dK kvs')):=by rw [I5 fun ⟨j,_,o⟩=>nA (.inr ⟨j,(fun q=>nomatch q),o⟩)]; exact hH
  have hB:∀ G,Same (Bs ⟨K,μ⟩ H' ρ σ' [i]) G→G a=some (.frz ob (.dK kvs')):=fun G hs=>hs _ _ hB
  refine ⟨_,e,a,ob,rfl,.inl ⟨kvs',hH,h (Itk a ob kvs') H' (Same.refl _) ⟨fun j G hs hj=>⟨hB G hs,by simpa using hj⟩,fun G hs=>⟨hB G hs,by simp⟩,fun j G x G' dd hs y ed=>?_⟩⟩⟩
  obtain ⟨rfl,k,w,ew,rfl⟩:=y
  refine ⟨Same.refl _,fun A _=>?_⟩
  have:dd=IW k:=by
   rw [List.getElem?_map,List.getElem?_map,ew] at ed
   cases ed
   rfl
  subst this
  exact Q2 _
 ·exact False.elim h
theorem ZW(i:Nat){g:TG}{tb:TS}{u:Dt→Env→Option Env}{b:Env→SOut}{S:List Nat}(hg:Zq K g u S)(hb:Jc K W tb b):Jc K W (kK (tFor (iKeys (tVar i)) g tb)) (DU i u b):=by
 intro μ H0 A0 ρ σ H D s h
 have hx:∀ x ρ',AW u (CO i) [i] b ρ≠.exc x ρ':=fun x ρ' z=>by
  unfold DU at h
  rw [z] at h
  exact h
 have h:A9 K W μ H0 A0 (AW u (CO i) [i] b ρ) D:=by
  unfold DU at h
  split at h
  ·exact False.elim h
  ·exact h
 have hs:∃ ks ds,ρ[i]? = some (some (.sh (.dic ks ds))):=by
  unfold AW at h
  cases e:CO i ρ with
  | ok ds=>
   unfold CO at e
   split at e
   ·exact ⟨_,_,by assumption⟩
   ·cases e
  | bad=>rw [e] at h; exact False.elim h
  | exc x=>unfold CO at e; split at e <;> cases e
 obtain ⟨ks,ds,e3⟩:=hs
 obtain ⟨v,e4,r⟩:=s.lo i _ e3
 unfold Rep at r
 obtain ⟨a,kvs,rfl,nA,g1,g2,g3⟩:=r
 rcases g1 with g1 | ⟨ob,g1⟩
 ·refine .inr ⟨a,.dK kvs,g1,?_,fun ob=>?_⟩
  ·first | exact rfl | exact trivial | simp [Mut]
  ·exact S4 (Jv (H:=upd H a (.frz ob (.dK kvs))) i a ob e4 upd_same) hg hb μ (gJ H0 a (.frz ob (.dK kvs))) A0 ρ σ (upd H a (.frz ob (.dK kvs))) (lkD D a ob (.dK kvs)) (s.lock ob g1 nA) (A9.lock s ob g1 hx h) rfl rfl
 ·exact .inl (S4 (Jv i a ob e4 g1) hg hb μ H0 A0 ρ σ H D s h rfl rfl)
end
end FD
namespace FD
open PySem L2 PyProof.Rows PySem.Spec
theorem HR{X:Cx}{W:WX}{S:List Nat}{tg:Expr}{body:List Stmt}{pos p:Pos}{x:Str}{u:Dt→Env→Option Env}{g:Env→SOut}(i:Nat)(hp:PassesOwn (model X.prog X.w) X.A X.env X.xe)(hc:X.calm=true)(hg:Wt X tg u S)(hb:JM X W body g)(hN:X.N[i]? = some x:=by rfl)(hv:Vis X.env.scope x:=by first | exact Or.inl rfl | exact Or.inr (Or.inl rfl) | exact Or.inr (Or.inr rfl))(hd:(x == ("__debug__" : Str))=false:=by decide)
  (hcd:(x == ("__classdict__" : Str))=false:=by decide) (hs:∀ v,foldedSetIterable (.Name x p) X.env v=pure v:=by intro _; rfl):Nq X W (.For tg (.Name x p) body [] pos) (DU i u g):=by
 obtain ⟨t',p',d'⟩:=hg
 obtain ⟨t2,p2,d2⟩:=hb
 exact ⟨_,iD (ps_for hp hc (pi_keys (pe_var hN hv hd hcd)) p' p2 hs),ZW i d' d2⟩
end FD
namespace FD
open PySem L2 PyProof.Rows PySem.Spec
def JC(i:Nat)(u:Dt→Env→Option Env)(vs:List Nat)(t:Env→Out Bool)(f:Env→Out Dt):Env→Out (List Dt):=fun ρ=>match EA u vs t f (CO i) [i] ρ with
 | .exc _=>.bad
 | r=>r
def lG(t:TE):TE:=fun σ H Q=>t σ H Q∨tLockE t σ H Q
theorem h8{X:Cx}{e:Expr}{t:TE}(h:PE X e t):PE X e (lG t):=⟨fun pins s σ H Q I hw=>hw.elim (fun hw=>h.run pins s σ H Q I hw) fun hw=>(pe_lock h).run pins s σ H Q I hw⟩
section
variable {K:PySem.W.Frag} {W:WX}
theorem cN(i:Nat){g:TG}{tt:TT}{te:TE}{u:Dt→Env→Option Env}{S vs lt le:List Nat}{t:Env→Out Bool}{f:Env→Out Dt}(hg:Zq K g u S)(hS:∀ i∈S,i∈vs)(ht:TY K W0 tt t lt)(he:D3 K W0 te f le):
  au K W (lG (tLc (iKeys (tVar i)) g tt te vs)) (JC i u vs t f) ([i] ++ (le ++ vs)):=by
 intro μ H0 A0 ρ σ H Q s h
 have hk:∃ ds,EA u vs t f (CO i) [i] ρ=.ok ds∧RL ⟨K,μ⟩ (Av ⟨K,μ⟩ A0 ρ σ ([i] ++ (le ++ vs))) H Q ds:=by
  unfold JC at h
  cases e:EA u vs t f (CO i) [i] ρ with
  | ok ds=>rw [e] at h; exact ⟨ds,rfl,h⟩
  | exc x=>rw [e] at h; exact False.elim h
  | bad=>rw [e] at h; exact False.elim h
 obtain ⟨ds,ek,hr⟩:=hk
 have hs:∃ ks es,ρ[i]? = some (some (.sh (.dic ks es))):=by
  unfold EA at ek
  cases e:CO i ρ with
  | ok ds=>
   unfold CO at e
   split at e
   ·exact ⟨_,_,by assumption⟩
   ·cases e
  | bad=>rw [e] at ek; cases ek
  | exc x=>unfold CO at e; split at e <;> cases e
 obtain ⟨ks,es,e3⟩:=hs
 obtain ⟨v,e4,r⟩:=s.lo i _ e3
 unfold Rep at r
 obtain ⟨a,kvs,rfl,nA,g1,g2,g3⟩:=r
 rcases g1 with g1 | ⟨ob,g1⟩
 ·refine .inr ⟨a,.dK kvs,g1,?_,fun ob=>?_⟩
  ·first | exact rfl | exact trivial | simp [Mut]
  ·refine Jg (W:=W) (Jv (W:=W) (H:=upd H a (.frz ob (.dK kvs))) i a ob e4 upd_same) hg hS ht he μ (gJ H0 a (.frz ob (.dK kvs))) A0 ρ σ (upd H a (.frz ob (.dK kvs))) (fun v H'=>H' a=some (.frz ob (.dK kvs))∧Q v (upd H' a (.dK kvs))) (s.lock ob g1 nA) ?_ rfl rfl
   rw [ek]
   intro p ws H' hs hp hl rr
   have hf:H' a=some (.frz ob (.dK kvs)):=hs _ _ upd_same
   have pa:p≠a:=fun z=>by rw [z,upd_same] at hp; cases hp
   refine ⟨hf,hr p ws (upd H' a (.dK kvs)) (fun b o e=>?_) (by rw [upd_ne pa] at hp; exact hp) (by rw [upd_ne pa]; exact hl) (Ah.lk (N7.un hf) _ _ rr)⟩
   by_cases hb:b=a
   ·subst hb
    rw [g1] at e
    rw [upd_same]
    exact e
   ·rw [upd_ne hb]
    exact hs b o (by rw [upd_ne hb]; exact e)
 ·refine .inl (Jg (W:=W) (Jv (W:=W) i a ob e4 g1) hg hS ht he μ H0 A0 ρ σ H Q s ?_ rfl rfl)
  rw [ek]
  exact hr
end
end FD
namespace FD
open PySem L2 PyProof.Rows PySem.Spec
theorem S8{X:Cx}{W:WX}{elt tg:Expr}{ifs:List Expr}{scope:Scope}{pos p:Pos}{x:Str}{u:Dt→Env→Option Env}{S lt le:List Nat}{t:Env→Out Bool}{f:Env→Out Dt}(i:Nat)(own:List (Str × Nat))(hc:X.calm=true)(hN:X.N.Nodup)
  (hg:∀ (s:Shared) (H:Hp) (C:Addr) (cl:List (Str × Addr)) (fp:List Addr),Wt (X.blk s H scope (compEnvC scope cl C X.env) fp) tg u S)
  (ht:∀ (s:Shared) (H:Hp) (C:Addr) (cl:List (Str × Addr)) (fp:List Addr),Q9 (X.blk s H scope (compEnvC scope cl C X.env) fp) W0 ifs t lt)
  (he:∀ (s:Shared) (H:Hp) (C:Addr) (cl:List (Str × Addr)) (fp:List Addr),Bv (X.blk s H scope (compEnvC scope cl C X.env) fp) W0 elt f le)
  (ok:BlkOk X.N X.env.scope scope own:=by exact blkOk_by (by decide +kernel)) (hx:X.N[i]? = some x:=by rfl) (hv:Vis X.env.scope x:=by first | exact Or.inl rfl | exact Or.inr (Or.inl rfl) | exact Or.inr (Or.inr rfl)) (hd:(x == ("__debug__" : Str))=false:=by decide)
  (hcd:(x == ("__classdict__" : Str))=false:=by decide) (hS:∀ i∈S,i∈own.map (·.2):=by decide) (hs:∀ v,foldedSetIterable (.Name x p) X.env v=pure v:=by intro _; rfl):
  ZC X W (.ListComp elt [⟨tg,.Name x p,ifs,0⟩] scope pos) (JC i u (own.map (·.2)) t f) ([i] ++ (le ++ own.map (·.2))):=by
 refine ⟨_,h8 (pe_lc (g:=cG X.K u S) (tt:=cT X.K W0 t) (te:=cE X.K W0 f le) hc hN (pi_keys (pe_var hx hv hd hcd)) ok (fun s H C cl fp=>(hg s H C cl fp).NC) (fun s H C cl fp=>(ht s H C cl fp).NC) (fun s H C cl fp=>(he s H C cl fp).NC) hs),?_⟩
 exact cN i (fun μ H0 A0 ρ ρ' σ H d v Q s r e q=>⟨μ,H0,A0,ρ,ρ',d,s,r,e,q⟩) hS (lt:=lt) (fun μ H0 A0 ρ σ H Q s h=>⟨μ,H0,A0,ρ,s,h⟩) (fun μ H0 A0 ρ σ H Q s h=>⟨μ,H0,A0,ρ,s,h⟩)
end FD
namespace FD
open PySem L2 PyProof.Rows PySem.Spec
def fZ:List V→Hp→VK→Prop:=fun xs H Q=>∃ a kvs,xs=[V.ref a]∧Rd H a (.dK kvs)∧Q (.int kvs.length) H
theorem Ym{X:Cx}:CallR X (.builtin "len") fZ:=by
 intro pins s σ H xs us Q I r h
 obtain ⟨a,kvs,rfl,ha,q⟩:=h
 obtain ⟨u,rfl,ru⟩:=vals1 r
 cases ru
 exact d_len I ha fun t s' I'=>⟨.int kvs.length,H,I',⟨t,rfl⟩,q⟩
def Iv:List Dt→Option Dt
 | [.dic ks _]=>some (.int ks.length)
 | _=>none
theorem ZH{K:PySem.W.Frag}:Uc K fZ Iv:=by
 intro μ H A ds d vs Q _ r e q
 unfold Iv at e
 split at e
 ·cases e
  obtain ⟨v,rfl,rr⟩:=Dg r
  obtain ⟨a,kvs,rfl,g1,g2,g3⟩:=HL rr
  subst g2
  exact ⟨a,kvs,rfl,g1,q _ H (Same.refl H) (by rw [List.length_map]; rfl)⟩
 ·cases e
theorem Wm{ds:List Dt}{d:Dt}(h:Iv ds=some d):d.scal=true:=by
 unfold Iv at h
 split at h
 ·cases h; rfl
 ·cases h
section
variable {X:Cx} {W:WX} {e:Expr} {fs:Env→Out (List Dt)} {lk:List Nat} {p pos:Pos}
theorem Tu(hg:Gl X "len")(hm:X.mg "len" = none)(ha:JN X W [e] fs lk)(he:starEach [e] X.env=(false,eval e X.env) :: starEach [] X.env:=by rfl):Bv X W (.Call (.Name "len" p) [e] [] pos) (eB Iv fs) []:=by
 obtain ⟨ta,pa,da⟩:=ha
 exact ⟨_,pe_callB Ym hg hm boot_len pa (by decide) (by decide) he rfl,F4 ZH (fun _ _ h=>Wm h) da⟩
end
end FD
namespace FD
open PySem L2 PyProof.Rows PySem.Spec
def AS(L:Ly)(fa fb:Env→Out Dt):Env→Out Dt:=fun ρ=>(fa ρ).bind fun a=>(fb ρ).bind fun b=>match a,b with
 | .obj C ns ds,.obj D ms es=>if C=D then (match L.lookup C with
  | some ψ=>ψ [.obj C ns ds,.obj D ms es]
  | none=>.bad) else .bad
 | _,_=>.bad
def ko(K:PySem.W.Frag)(L:Ly)(E:L2.St→XK)(ta tb:TE):TE:=fun σ H Q=>ta σ H fun x H1=>tb σ H1 fun y H2=>∃ C ψ a dx fs b ex gs,(C,ψ)∈L∧x=.ref a∧H2 a=some (.ins C dx fs)∧y=.ref b∧H2 b=some (.ins C ex gs)∧OI K ψ [x,y] H2 Q (E σ)
section
variable {X:Cx} {W:WX} {a b:Expr} {fa fb:Env→Out Dt} {la lb:List Nat} {pos:Pos} {L:Ly} {k j:Nat} {ta tb:TE} {m:Str} {op:Operator}
theorem hX(hm:PySem.dunder op.info.2=m)(hL:∀ q∈L,MeC X.prog X.w X.K X.mg X.base k q.1 m q.2)(hS:∀ q∈L,PySem.W.selfFirst X.K q.1=true)(tk:L2N.Takes X W)(hr:Room j X.A)(hk:k≤j)(ha:PE X a ta)(hb:PE X b tb):PE X (.BinOp a op b pos) (ko X.K L (WE W) ta tb):=by
 refine ⟨fun pins s σ H Q I h=>?_⟩
 refine wpAny_BinOp (binT ha hb I h fun v u s2 x y H2 I2 rx ry z=>?_)
 obtain ⟨C,ψ,p,dx,fs,p',ex,gs,hmem,e1,ep,e2,ep',q2⟩:=z
 subst e1 e2
 obtain rfl:v=Value.ref p:=rx
 obtain rfl:u=Value.ref p':=ry
 have mc:=hL _ hmem
 obtain ⟨f,hme,F⟩:=mc.ex
 obtain ⟨mA,J,_⟩:=ins_get I2.hok ep
 obtain ⟨od,J,_⟩:=J.look
 obtain ⟨mB,J',_⟩:=ins_get I2.hok ep'
 obtain ⟨od',J',_⟩:=J'.look
 obtain ⟨mm,hF⟩:=I2.fr
 refine PySem.W.binop_K hF I2.ok.mod.kin J J'.type (hS _ hmem) (by rw [hm]; exact hme.at_) hme.fn ?_
 refine wpAny_mono (IQ (us:=[.ref p,.ref p']) (vs:=[.ref p,.ref p']) F (hr.mono hk) (L2N.passAt tk σ) I2 (.cons rfl (.cons rfl .nil)) q2) (fun r s3 z=>?_) fun _ _ x=>x
 have z':=z
 obtain ⟨w,H3,I3,rw,q3⟩:=z
 cases r <;> first | exact z' | (cases w <;> first | (cases rw; done) | (obtain ⟨_,h⟩:=rw; cases h; done))
theorem e7{K:PySem.W.Frag}(ha:D3 K W ta fa la)(hb:D3 K W tb fb lb):D3 K W (ko K L (WE W) ta tb) (AS L fa fb) (la ++ lb):=by
 intro μ H0 A0 ρ σ H Q s h
 refine ha _ _ _ _ _ _ _ s (h.seq fun x ex h1 v1 H1 s1 r1=>?_)
 refine hb _ _ _ _ _ _ _ (s.grow s1) ((h1.grow s1).seq fun y ey h2 v2 H2 s2 r2=>?_)
 clear ex ey
 cases x <;> try (exact False.elim h2)
 cases y <;> try (exact False.elim h2)
 rename_i C ns ds D ms es
 simp only at h2
 by_cases hC:C=D
 case neg=>rw [if_neg hC] at h2; exact False.elim h2
 rw [if_pos hC] at h2
 subst hC
 cases el:L.lookup C with
 | none=>rw [el] at h2; exact False.elim h2
 | some ψ=>
  rw [el] at h2
  simp only at h2
  have r1':=r1.same s2
  have r2':=r2
  have r1:=r1.same s2
  unfold Rep at r1 r2
  obtain ⟨p,dx,fl,rfl,_,h3,_,_⟩:=r1
  obtain ⟨p',dx',fl',rfl,_,h4,_,_⟩:=r2
  refine ⟨C,ψ,p,dx,fl,p',dx',fl',lookup_mem el,rfl,h3,rfl,h4,[.obj C ns ds,.obj C ms es],Av ⟨K,μ⟩ A0 ρ σ (la ++ lb),μ,Ah.cons (r1'.BZ fun _=>bf) (Ah.cons (r2'.BZ fun _=>bZ) Ah.nil),fun a z=>(s.grow (s1.trans s2)).Ec z,?_⟩
  unfold LB
  cases eo:ψ [.obj C ns ds,.obj C ms es] with
  | ok d=>rw [eo] at h2; exact fun v H' s' r=>h2 v H' ((s1.trans s2).trans s') r
  | exc x=>rw [eo] at h2; exact fun c od H' s' r=>h2 c od H' (s2.trans s') r
  | bad=>rw [eo] at h2; exact h2
theorem A1(m:Str)(hL:∀ q∈L,MeC X.prog X.w X.K X.mg X.base k q.1 m q.2)(hS:∀ q∈L,PySem.W.selfFirst X.K q.1=true)(tk:L2N.Takes X W)(hr:Room j X.A)(hk:k≤j)(ha:Bv X W a fa la)(hb:Bv X W b fb lb)(hm:PySem.dunder op.info.2=m:=by rfl):
  Bv X W (.BinOp a op b pos) (AS L fa fb) (la ++ lb):=by
 obtain ⟨ta,pa,da⟩:=ha
 obtain ⟨tb,pb,db⟩:=hb
 exact ⟨_,hX hm hL hS tk hr hk pa pb,e7 da db⟩
end
structure CaC (P:Program) (w:World) (K:PySem.W.Frag) (mg:Str→Option Value) (base:Heap) (k:Nat) (C:Addr) (ψ:List Dt→Out Dt):Prop where
 ex:∃ f,StX.CallO K C f∧FnR P w K mg base (L2N.CX P w) k f (OI K ψ)
def RN(L:Ly)(fo:Env→Out Dt)(fs:Env→Out (List Dt)):Env→Out Dt:=fun ρ=>(fo ρ).bind fun o=>match o with
 | .obj C ns ds=>(match L.lookup C with
  | some ψ=>(fs ρ).bind fun as=>ψ (.obj C ns ds :: as)
  | none=>.bad)
 | _=>.bad
def jN(L:Ly)(K:PySem.W.Frag)(E:L2.St→XK)(ta:TE)(t:TA):TE:=fun σ H Q=>ta σ H fun x H1=>∃ C ψ a dx fs,(C,ψ)∈L∧x=.ref a∧H1 a=some (.ins C dx fs)∧t σ H1 fun vs H2=>H2 a=some (.ins C dx fs)∧OI K ψ (x :: vs) H2 Q (E σ)
section
variable {X:Cx} {W:WX} {o e:Expr} {es:List Expr} {fo:Env→Out Dt} {fs:Env→Out (List Dt)} {la lk:List Nat} {pos:Pos} {L:Ly} {k j:Nat} {ta:TE} {t:TA}
theorem iP(hL:∀ q∈L,CaC X.prog X.w X.K X.mg X.base k q.1 q.2)(tk:L2N.Takes X W)(hr:Room j X.A)(hk:k≤j)(he:PE X o ta)(ha:PA X (e :: es) t)
  (ht:eval (.Call o (e :: es) [] pos) X.env=(do callWith pos (← eval o X.env) [] (backTo pos (starEach (e :: es) X.env)) (backToKw pos (keywordEach [] X.env))):=by rfl)
  (hst:starEach (e :: es) X.env=(false,eval e X.env) :: starEach es X.env:=by rfl) (hpl:(backTo pos (starEach es X.env)).any (·.1)=false:=by rfl):PE X (.Call o (e :: es) [] pos) (jN L X.K (WE W) ta t):=by
 refine ⟨fun pins s σ H Q I h=>?_⟩
 refine Call_ (thn (he.run pins s σ H _ I h) fun u s1 ⟨x,H1,I1,rx,C,ψ,a,dx,fs,hm,ex,ea,q⟩=>?_) ht
 subst ex
 obtain rfl:u=Value.ref a:=rx
 obtain ⟨f,c,F⟩:=(hL _ hm).ex
 refine StX.callO_with (thn (ha.run pos pins s1 σ H1 _ I1 q) fun us s2 ⟨vs,H2,I2,r,ea2,q2⟩=>?_) hst hpl
 obtain ⟨mA,O,_⟩:=ins_get I2.hok ea2
 obtain ⟨od,J,_⟩:=O.look
 refine ⟨⟨C,_,od,J,rfl⟩,wpAny_call (PySem.W.kco_code I2.kIn J rfl c.at_ c.fn c.fi (codeAny_mono (F X.A X.stack s2 H2 (.ref a :: us) (.ref a :: vs) Q _ (hr.mono hk) I2.env0 (.cons rfl r) q2) fun r s' hq=>?_))⟩
 cases r with
 | error er=>exact (L2N.passAt tk σ) pins H2 s2 er s' I2 hq
 | ok fl=>
  cases fl with
  | ret v=>exact I2.after hq
  | next=>exact False.elim hq
  | brk=>exact False.elim hq
  | cont=>exact False.elim hq
theorem eZ{K:PySem.W.Frag}(ho:D3 K W ta fo la)(ha:Ub K W t fs lk):D3 K W (jN L K (WE W) ta t) (RN L fo fs) (la ++ lk):=by
 intro μ H0 A0 ρ σ H Q s h
 refine ho _ _ _ _ _ _ _ s (h.seq fun o eo h1 v1 H1 s1 r1=>?_)
 clear eo
 cases o <;> try (exact False.elim h1)
 rename_i C ns ds
 simp only at h1
 cases el:L.lookup C with
 | none=>rw [el] at h1; exact False.elim h1
 | some ψ=>
  rw [el] at h1
  simp only at h1
  have r1':=r1
  unfold Rep at r1
  obtain ⟨a,dx,fl,rfl,_,h2,h3,_⟩:=r1
  refine ⟨C,ψ,a,dx,fl,lookup_mem el,rfl,h2,?_⟩
  refine ha _ _ _ _ _ _ _ (s.grow s1) ((h1.grow s1).seq fun as _ h4 vs H2 s2 r2=>?_)
  refine ⟨s2 _ _ h2,.obj C ns ds :: as,Av ⟨K,μ⟩ A0 ρ σ (la ++ lk),μ,Ah.cons ((r1'.same s2).BZ fun _=>bf) (r2.BZ fun _=>bZ),fun a z=>(s.grow (s1.trans s2)).Ec z,?_⟩
  unfold LB
  cases eo:ψ (.obj C ns ds :: as) with
  | ok d=>rw [eo] at h4; exact fun v H' s' r=>h4 v H' ((s1.trans s2).trans s') r
  | exc x=>rw [eo] at h4; exact fun c od H' s' r=>h4 c od H' (s2.trans s') r
  | bad=>rw [eo] at h4; exact h4
theorem V1(hL:∀ q∈L,CaC X.prog X.w X.K X.mg X.base k q.1 q.2)(tk:L2N.Takes X W)(hr:Room j X.A)(hk:k≤j)(ho:Bv X W o fo la)(ha:JN X W (e :: es) fs lk)
  (ht:eval (.Call o (e :: es) [] pos) X.env=(do callWith pos (← eval o X.env) [] (backTo pos (starEach (e :: es) X.env)) (backToKw pos (keywordEach [] X.env))):=by rfl)
  (hst:starEach (e :: es) X.env=(false,eval e X.env) :: starEach es X.env:=by rfl) (hpl:(backTo pos (starEach es X.env)).any (·.1)=false:=by rfl):Bv X W (.Call o (e :: es) [] pos) (RN L fo fs) (la ++ lk):=by
 obtain ⟨te,pe,de⟩:=ho
 obtain ⟨ta,pa,da⟩:=ha
 exact ⟨_,iP hL tk hr hk pe pa ht hst hpl,eZ de da⟩
end
end FD
namespace L2
open PySem PySem.Spec PyProof.Rows
def Rx:List Key→List PyData→Key→Option PyData
 | k :: ks,p :: ps,j=>if k=j then some p else Rx ks ps j
 | _,_,_=>none
def U2(ks:List Key)(ps:List PyData)(ls:List Key)(qs:List PyData):Bool:=(ks.zip ps).all fun z=>match Rx ls qs z.1 with
 | some q=>PyData.eqv z.2 q
 | none=>false
section
variable {X:Cx} {pins:List (Addr × Obj)} {σ:St} {H:Hp} {s:Shared}
theorem X0(I:Inv X pins σ H s):∀ {ls:List (Key × V)} {vb:List (Key × Value)} {qs:List PyData} (k:Key),KV ls vb→DpAll X.K H (ls.map (·.2)) qs→(Rx (ls.map (·.1)) qs k=none∧valueAt vb k=none)∨∃ q y as,Rx (ls.map (·.1)) qs k=some q∧q∈qs∧valueAt vb k=some y∧PySem.Reads s.heap y q as
 | [],_,[],k,.nil,.nil=>.inl ⟨rfl,rfl⟩
 | p :: ls,q :: vb,r :: qs,k,.cons h t,.cons d ds=>by
  obtain ⟨h1,h2⟩:=h
  by_cases e:p.1=k
  ·obtain ⟨as,ra⟩:=Dp.reads I r p.2 q.2 d h2
   refine .inr ⟨r,q.2,as,?_,List.mem_cons_self,?_,ra⟩
   ·show (if p.1=k then some r else _)=_
    rw [if_pos e]
   ·unfold valueAt
    have e':q.1=k:=by rw [← h1]; exact e
    simp [e']
  ·have e1:Rx ((p :: ls).map (·.1)) (r :: qs) k=Rx (ls.map (·.1)) qs k:=if_neg e
   have e2:valueAt (q :: vb) k=valueAt vb k:=by
    have e':¬ q.1=k:=by rw [← h1]; exact e
    unfold valueAt
    simp [e']
   rw [e1,e2]
   rcases X0 I k t ds with z | ⟨q',y,as,z1,z2,z3,z4⟩
   ·exact .inl z
   ·exact .inr ⟨q',y,as,z1,List.mem_cons_of_mem _ z2,z3,z4⟩
theorem N0{A:Around}(I:Inv X pins σ H s)(hu:A.units + 64 < cLine){ls:List (Key × V)}{vb:List (Key × Value)}{qs:List PyData}(kb:KV ls vb)(db:DpAll X.K H (ls.map (·.2)) qs)(sb:qs.all SeqAt.shaped=true):
  ∀ {ks:List (Key × V)} {va:List (Key × Value)} {ps:List PyData},KV ks va→DpAll X.K H (ks.map (·.2)) ps→ps.all SeqAt.shaped=true→PySem.W.KeqHits A s vb va (U2 (ks.map (·.1)) ps (ls.map (·.1)) qs)
 | [],_,[],.nil,.nil,_=>.nil
 | p :: ks,q :: va,r :: ps,.cons h t,.cons d ds,sp=>by
  rw [List.all_cons,Bool.and_eq_true] at sp
  obtain ⟨h1,h2⟩:=h
  obtain ⟨as,ra⟩:=Dp.reads I r p.2 q.2 d h2
  obtain ⟨k,v⟩:=q
  have h1:p.1=k:=h1
  rcases X0 I p.1 kb db with ⟨z1,z2⟩ | ⟨q',y,bs,z1,z2,z3,z4⟩
  ·have e:U2 ((p :: ks).map (·.1)) (r :: ps) (ls.map (·.1)) qs=false:=by
    show ((match Rx (ls.map (·.1)) qs p.1 with | some q=>PyData.eqv r q | none=>false) && _)=false
    rw [z1]
    rfl
   rw [e]
   exact .miss (by rw [← h1]; exact z2)
  ·have e:U2 ((p :: ks).map (·.1)) (r :: ps) (ls.map (·.1)) qs=(PyData.eqv r q' && U2 (ks.map (·.1)) ps (ls.map (·.1)) qs):=by
    show ((match Rx (ls.map (·.1)) qs p.1 with | some q=>PyData.eqv r q | none=>false) && _)=_
    rw [z1]
    rfl
   rw [e]
   have sq:=List.all_eq_true.mp sb q' z2
   exact .hit (by rw [← h1]; exact z3) (SeqAt.eqAt_reads r q' A s v y as bs ra z4 (SeqAt.canLay_of_shaped sp.1) (SeqAt.canLay_of_shaped sq) (SeqAt.room_of_shaped sp.1 hu)) (N0 I hu kb db sb t ds sp.2)
def gX(K:PySem.W.Frag)(ng:Bool):R2:=fun x y H Q=>∃ a b ks ls ps qs,x=.ref a∧y=.ref b∧Rd H a (.dK ks)∧Rd H b (.dK ls)∧DpAll K H (ks.map (·.2)) ps∧DpAll K H (ls.map (·.2)) qs∧ps.all SeqAt.shaped=true∧qs.all SeqAt.shaped=true∧Q (.bl (xor ng (ks.length == ls.length && U2 (ks.map (·.1)) ps (ls.map (·.1)) qs))) H
theorem b0(hu:X.A.units + 66 < cLine)(ng:Bool){op:CmpOp}(ho:op=if ng then .NotEq else .Eq):OpR X (compareOp op) (gX X.K ng):=by
 intro pins s σ H x y v u Q I rx ry h
 obtain ⟨a,b,ks,ls,ps,qs,rfl,rfl,ea,eb,da,db,sa,sb,q⟩:=h
 obtain rfl:v=Value.ref a:=rx
 obtain rfl:u=Value.ref b:=ry
 obtain ⟨_,ya,va,ra,da'⟩:=ea.ok I.hok
 obtain ⟨_,yb,vb,rb,db'⟩:=eb.ok I.hok
 have la:va.length=ks.length:=(Paired.length ra).symm
 have lb:vb.length=ls.length:=(Paired.length rb).symm
 have hu1:X.A.in1.units + 64 < cLine:=by
  have:X.A.in1.units≤X.A.units + 1:=by first | exact Nat.le_refl _ | (show X.A.units + 1≤X.A.units + 1; omega)
  omega
 cases ng with
 | false=>
  subst ho
  rw [Bool.false_xor] at q
  exact PySem.W.keq_eq (knd:=mixKind X.prog X.w) ya yb da' db' (by omega) (fun _=>N0 I hu1 rb db sb ra da sa) (fin_bl I q (by rw [la,lb]))
 | true=>
  subst ho
  rw [Bool.true_xor] at q
  exact PySem.W.keq_ne (knd:=mixKind X.prog X.w) ya yb da' db' (by omega) (fun _=>N0 I hu1 rb db sb ra da sa) (fin_bl I q (by rw [la,lb]))
end
end L2
namespace FD
open PySem L2 PyProof.Rows PySem.Spec
def Si(ng:Bool)(a b:Dt):Option Bool:=match a,b with
 | .dic ks ds,.dic ls es=>(Dt.Pb ds).bind fun ps=>(Dt.Pb es).bind fun qs=>if ps.all SeqAt.shaped=true∧qs.all SeqAt.shaped=true then some (xor ng (ks.length == ls.length && U2 ks ps ls qs)) else none
 | _,_=>none
theorem ZY{K:PySem.W.Frag}{ng:Bool}:OQ K (gX K ng) (Si ng):=by
 intro μ H A a b d x y Q ra rb e q
 unfold Si at e
 split at e
 ·obtain ⟨ps,e1,e⟩:=Option.bind_eq_some_iff.mp e
  obtain ⟨qs,e2,e⟩:=Option.bind_eq_some_iff.mp e
  obtain ⟨⟨h1,h2⟩,rfl⟩:=Bq e
  obtain ⟨a1,ks,rfl,g1,rfl,r1⟩:=HL ra
  obtain ⟨b1,ls,rfl,g2,rfl,r2⟩:=HL rb
  refine ⟨a1,b1,ks,ls,ps,qs,rfl,rfl,g1,g2,Ah.dN _ _ ps e1 r1,Ah.dN _ _ qs e2 r2,h1,h2,?_⟩
  rw [List.length_map,List.length_map] at q
  exact q
 ·cases e
theorem dQ{X:Cx}{j:Nat}(hr:Room j X.A):Cmp X .Eq (Si false):=⟨_,b0 (by have:=hr.un; omega) false rfl,ZY⟩
end FD
namespace FD
open PySem L2 PyProof.Rows PySem.Spec
def dJ(f:Env→Out (List Dt)):Env→Out Dt:=fun ρ=>(f ρ).bind fun ds=>if ds.length≤16777216 then .ok (.ptp ds) else .bad
theorem cO{f:Env→Out (List Dt)}{ρ:Env}:dJ f ρ=(f ρ).bind fun ds=>if ds.length≤16777216 then .ok (.ptp ds) else .bad:=rfl
def j3(t:TA):TE:=fun σ H Q=>t σ H fun xs H1=>xs.length≤sizeLine∧∀ (l:Addr) (o:Obj),H1 l=none→o.dict=none→Q (.ref l) (upd H1 l (.frz o (.tup xs)))
section
variable {X:Cx} {W:WX} {es:List Expr} {t ta:TA} {fs:Env→Out (List Dt)} {lk la lb:List Nat} {pos p:Pos}
theorem i7{x1}(h:PA X es t):PE X (.Tuple es x1 pos) (j3 t):=by
 refine ⟨fun pins s σ H Q I hq=>?_⟩
 refine wpAny_Tuple_spliced (thn (h.run pos pins s σ H _ I hq) fun us s1 ⟨xs,H1,I1,r,z,q⟩=>⟨by rw [← r.length]; exact z,?_⟩)
 have hf:H1 s1.heap.objs.size=none:=I1.hok.fresh (Nat.le_refl _)
 refine ⟨.ref s1.heap.objs.size,_,I1.laid (t':=s1.toks) (fun b u e=>Heap.get?_push_of_some _ e) (Nat.le_refl _) (show ObjOk X.prog X.w _ _ _ (.frz _ (.tup xs)) from ⟨Heap.get?_push_size _ rfl,z,us,r,⟨_,Heap.get?_push_size _ rfl,rfl,_,rfl⟩⟩),rfl,q _ _ hf rfl⟩
theorem cW{K:PySem.W.Frag}(ha:Ub K W ta fs la):D3 K W (j3 ta) (dJ fs) la:=by
 intro μ H0 A0 ρ σ H Q s h
 refine ha _ _ _ _ _ _ _ s (h.seq fun ds _ h1 vs H1 s1 r1=>?_)
 split at h1
 ·rename_i hl
  refine ⟨by rw [r1.length,sizeLine_eq]; exact hl,fun p o hp ho=>h1 _ _ (s1.trans (Same.new hp)) ?_⟩
  unfold Rep
  exact ⟨p,vs,rfl,⟨(s.grow s1).Oa hp,o,upd_same,ho⟩,r1.same (Same.new hp)⟩
 ·exact False.elim h1
theorem i9{x1}(ha:JN X W es fs lk):Bv X W (.Tuple es x1 pos) (dJ fs) lk:=by
 obtain ⟨ta,pa,da⟩:=ha
 exact ⟨_,i7 pa,cW da⟩
end
def KZ(i:Nat)(f:Env→Out (List Dt)):Env→SOut:=fun ρ=>IL (f ρ) ρ fun ds=>match Fg ds with
 | some (.dic ks es)=>if Dt.E7 es=true then .ok .nx (ρ.set i (some (.od ks es))) else .bad
 | _=>.bad
theorem V2{i:Nat}{f:Env→Out (List Dt)}{ρ:Env}:KZ i f ρ=IL (f ρ) ρ fun ds=>match Fg ds with
 | some (.dic ks es)=>if Dt.E7 es=true then .ok .nx (ρ.set i (some (.od ks es))) else .bad
 | _=>.bad:=rfl
section
variable {K:PySem.W.Frag} {W:WX} {la lb lk:List Nat}
theorem V0{ta:TA}{f:Env→Out (List Dt)}{i:Nat}(ha:Ub K W ta f la):Jc K W (tAsg (tCB (WQ K) ta) (gName i)) (KZ i f):=by
 intro μ H0 A0 ρ σ H D s h
 unfold KZ at h
 refine ha _ _ _ _ _ _ _ s (A9.st s h fun ds _ h2 vs H1 s1 r1=>?_)
 cases eg:Fg ds with
 | none=>rw [eg] at h2; exact False.elim h2
 | some d=>
  rw [eg] at h2
  unfold Fg at eg
  split at eg
  ·rename_i es
   obtain ⟨ps,e1,eg⟩:=Option.bind_eq_some_iff.mp eg
   obtain ⟨hn,rfl⟩:=Bq eg
   simp only at h2
   split at h2
   ·rename_i hpu
    obtain ⟨v,rfl,rr⟩:=Dg r1
    unfold Rep at rr
    obtain ⟨a,us,rfl,⟨_,o,ho,hd⟩,r2⟩:=rr
    obtain ⟨as,kvs,rfl,hp,hk,r3⟩:=VT e1 r2
    refine ⟨a,o,as,kvs,rfl,ho,hd,hp,fun p hnew=>?_⟩
    have hm:mergeK [] kvs=kvs:=by
     have:=Kz kvs [] (by rw [List.map_nil,List.nil_append,hk]; exact hn)
     rw [this,List.nil_append]
    rw [hm]
    have hS:Same H (upd H1 p (.dK kvs)):=s1.trans (Same.new hnew)
    have sg:=s.grow s1
    have r4:=Ah.pure (A':=Av ⟨K,μ⟩ A0 ρ σ []) (fun a z=>sg.Ec z) _ _ hpu r3
    exact h2 _ _ _ (Xt.refl _) (s.W6 (i:=i) (lk:=[]) (p:=p) hS (s1.free hnew) upd_same hk ((Ah.fresh hnew _ _ r4).same (Same.new hnew)))
   ·exact False.elim h2
  ·cases eg
end
section
variable {X:Cx} {W:WX} {e:Expr} {fs:Env→Out (List Dt)} {lk:List Nat} {p pos:Pos}
theorem bh(i:Nat){x:Str}{pos':Pos}(hc:X.calm=true)(hg:Gl X "dict")(hm:X.mg "dict" = none)(ha:JN X W [e] fs lk)(hN:X.N.Nodup)(he:starEach [e] X.env=(false,eval e X.env) :: starEach [] X.env:=by rfl)(hi:X.N[i]? = some x:=by rfl)(hx:Loc X.env.scope x:=by first | exact Or.inl rfl | exact Or.inr rfl)
  (hs:swapsWith (.Call (.Name "dict" p) [e] [] pos) (some (.Name x pos')) pos.line X.env=pure false:=by rfl) (hf:X.fn x=true∨X.env.scope.names.lookup x=some .local:=by first | exact .inl rfl | exact .inr rfl | assumption) {q:Pos} (hs2:swapsWith (.Call (.Name "dict" p) [e] [] pos) (some (.Name x pos')) q.line X.env=pure false:=by rfl):Nq X W (.Assign [.Name x pos'] (.Call (.Name "dict" p) [e] [] pos) q) (KZ i fs):=by
 obtain ⟨ta,pa,da⟩:=ha
 exact ⟨_,ps_set hN hi hx (pe_callTy (QK hc) hg hm (by decide +kernel) pa (by decide) (by decide) he rfl) hs2 hf,V0 da⟩
end
end FD
namespace FD
open PySem L2 PyProof.Rows PySem.Spec
def LC(n:Nat)(f:Env→Out Dt):Env→XO Dt:=fun ρ=>(f ρ).xb ρ fun d=>match d with
 | .ad k=>(match ja n (.ad k) ρ with
  | some p=>.ok p.1 p.2
  | none=>.bad)
 | _=>.bad
section
variable {K:PySem.W.Frag} {S:List Nat} {W:WX} {la lb:List Nat} {n:Nat}
theorem aL{te:TE}{f:Env→Out Dt}(hS:n∈S)(ha:D3 K W te f la):Ml K W S te (LC n f) []:=by
 intro μ H0 A0 ρ σ H Q s h
 refine ha _ _ _ _ _ _ _ s (DM.pb s h fun d ed h1 v H1 s1 r1=>?_)
 clear ed
 cases d <;> try (exact False.elim h1)
 rename_i k
 simp only at h1
 split at h1
 ·rename_i p hp
  obtain ⟨e,ρ'⟩:=p
  have sg:=s.grow s1
  have r1':Rep ⟨K,μ⟩ H1 (Av ⟨K,μ⟩ A0 ρ σ []) (.ad k) v:=by
   unfold Rep at r1 ⊢
   exact r1
  obtain ⟨s2,o1,k1,q1⟩:=c8 sg hp r1'
  exact h1 μ v H1 (((Ch.refl μ H ρ).grow s1).trans (Ch.gv hS o1 fun j hj=>k1 j fun z=>hj (by rw [z]; exact hS))) s2 q1
 ·exact False.elim h1
theorem fB{X:Cx}{x:Expr}{f:Env→Out Dt}(n:Nat)(h:Bv X W x f la)(hS:n∈S:=by decide):KP X W S x (LC n f) []:=by
 obtain ⟨te,pe,de⟩:=h
 exact ⟨te,pe,aL hS de⟩
end
def G8(n i:Nat)(fk:Env→Out Dt):Env→SOut:=fun ρ=>match ρ[i]? with
 | some (some (.sh (.ad j)))=>(match Ed n ρ with
  | some cs=>(match cs[j]? with
   | some (.dic ks ds)=>IL (fk ρ) ρ fun k=>(match keyD k with
    | some k=>if k∈ks then .ok .nx (ρ.set n (some (.mh (cs.set j (.dic (LK ks k) (G7 ks ds k)))))) else .bad
    | none=>.bad)
   | _=>.bad)
  | none=>.bad)
 | _=>.bad
def gN:Cell→Option Dt
 | .dic ks _=>some (.int ks.length)
 | _=>none
def QM(n i:Nat):Env→Out Dt:=fun ρ=>match ρ[i]? with
 | some (some (.sh (.ad k)))=>GI ((Ed n ρ).bind fun cs=>(cs[k]?).bind gN)
 | _=>.bad
section
variable {K:PySem.W.Frag} {W:WX} {la lb:List Nat}
theorem YN{n i:Nat}{tk:TE}{fk:Env→Out Dt}(hk:D3 K W tk fk la):Jc K W (tDrop (tDPop1 (tVar i) tk)) (G8 n i fk):=by
 intro μ H0 A0 ρ σ H D s h
 unfold G8 at h
 split at h
 ·rename_i j e2
  obtain ⟨v0,e5,r0⟩:=s.lo i _ e2
  unfold Rep at r0
  obtain ⟨b,eb,rfl⟩:=r0
  split at h
  ·rename_i cs ec
   split at h
   ·rename_i ks ds e1
    obtain ⟨kvs,h1,h2,h3,r2⟩:=L9 s ec e1 eb
    subst h3
    refine ⟨_,e5,b,rfl,.inl ⟨kvs,.inl h1⟩,?_⟩
    refine hk _ _ _ _ _ _ _ s (A9.st s h fun k _ h4 w H2 g2 rk=>?_)
    have s2:=s.grow g2
    split at h4
    ·rename_i k' ek
     have ew:=JT ek rk
     subst ew
     split at h4
     ·rename_i hm
      cases ev:valV kvs k' with
      | none=>exact absurd ev (aT hm)
      | some v=>
       refine ⟨kvs,k',v,g2 _ _ h1,rfl,ev,?_⟩
       obtain ⟨_,_,hc⟩:=s2.lo n _ (Dm ec)
       obtain ⟨h0,kvs',hb,hks,r⟩:=hc j _ b e1 eb
       have e6:kvs'=kvs:=by
        have:=g2 _ _ h1
        rw [this] at hb
        cases hb
        rfl
       subst e6
       refine h4 _ _ _ (Xt.refl _) (s2.dU (c':=.dic (LK (kvs'.map (·.1)) k') (G7 (kvs'.map (·.1)) ds k')) (Dm ec) e1 rfl eb rfl fun A' hA=>?_)
       have ow:Bw ⟨K,μ⟩ ρ σ n b:=⟨_,Dm ec,j,_,e1,rfl,eb⟩
       exact ⟨h0,dropK kvs' k',upd_same,Wo,Qi (r.mono (Av.keep ow) hA)⟩
     ·exact False.elim h4
    ·exact False.elim h4
   ·exact False.elim h
  ·exact False.elim h
 ·exact False.elim h
theorem YB(n i:Nat):D3 K W (tCB (fun xs H Q=>∃ a kvs,xs=[V.ref a]∧H a=some (.dK kvs)∧Q (.int kvs.length) H) (tCons (tVar i) tNil)) (QM n i) []:=by
 intro μ H0 A0 ρ σ H Q s h
 unfold QM at h
 split at h
 ·rename_i k e
  obtain ⟨d,e2,q⟩:=B6 h
  obtain ⟨cs,ec,e3⟩:=Option.bind_eq_some_iff.mp e2
  obtain ⟨c,e1,e4⟩:=Option.bind_eq_some_iff.mp e3
  obtain ⟨v,e5,r⟩:=s.lo i _ e
  unfold Rep at r
  obtain ⟨b,eb,rfl⟩:=r
  cases c with
  | gone=>cases e4
  | lst ds=>cases e4
  | ins C ns ds=>cases e4
  | dic ks ds=>
   cases e4
   obtain ⟨kvs,h1,h2,h3,r2⟩:=L9 s ec e1 eb
   subst h3
   refine ⟨_,e5,b,kvs,rfl,h1,?_⟩
   rw [List.length_map] at q
   exact q _ H (Same.refl H) rfl
 ·exact False.elim h
end
section
variable {X:Cx} {W:WX} {e:Expr} {fk:Env→Out Dt} {la lb:List Nat} {apos cpos pos p p1:Pos}
theorem dM(n i:Nat){x:Str}(hk:Bv X W e fk la)(m:M1 X (.Name x p1) "pop" apos e cpos)(hN:X.N[i]? = some x:=by rfl)(hv:Vis X.env.scope x:=by first | exact Or.inl rfl | exact Or.inr (Or.inl rfl) | exact Or.inr (Or.inr rfl))(hd:(x == ("__debug__" : Str))=false:=by decide)
  (hcd:(x == ("__classdict__" : Str))=false:=by decide) (hs:swapsWith (.Call (.Attribute (.Name x p1) "pop" apos) [e] [] cpos) none pos.line X.env=pure false:=by rfl):Nq X W (.Expr (.Call (.Attribute (.Name x p1) "pop" apos) [e] [] cpos) pos) (G8 n i fk):=by
 obtain ⟨t,p,d⟩:=hk
 exact ⟨_,ps_expr (pe_dpop1 (pe_var hN hv hd hcd) p m) hs,YN d⟩
theorem ZU(n i:Nat){x:Str}(hg:Gl X "len")(hm:X.mg "len" = none)(hN:X.N[i]? = some x:=by rfl)(hv:Vis X.env.scope x:=by first | exact Or.inl rfl | exact Or.inr (Or.inl rfl) | exact Or.inr (Or.inr rfl))(hd:(x == ("__debug__" : Str))=false:=by decide)
  (hcd:(x == ("__classdict__" : Str))=false:=by decide) (he:starEach [.Name x p1] X.env=(false,eval (.Name x p1) X.env) :: starEach [] X.env:=by rfl):Bv X W (.Call (.Name "len" p) [.Name x p1] [] pos) (QM n i) []:=
 ⟨_,pe_callB call_lenD hg hm boot_len (pa_cons (pe_var hN hv hd hcd) pa_nil he) (by decide) (by decide) he rfl,YB n i⟩
end
end FD
namespace FD
open PySem L2 PyProof.Rows PySem.Spec
section
variable {X:Cx} {W:WX} {e:Expr} {es:List Expr} {fk f:Env→Out Dt} {t:Env→Out Bool} {u:Dt→Env→Option Env} {S lk lt lq le:List Nat}
theorem kd{kx elt tg iter:Expr}{ifs:List Expr}{scope:Scope}{pos:Pos}{src:Env→Out (List Dt)}(own:List (Str × Nat))(hc:X.calm=true)(hN:X.N.Nodup)(hi:iM X W tg iter src lk)
  (hg:∀ (s:Shared) (H:Hp) (C:Addr) (cl:List (Str × Addr)) (fp:List Addr),Wt (X.blk s H scope (compEnvC scope cl C X.env) fp) tg u S)
  (ht:∀ (s:Shared) (H:Hp) (C:Addr) (cl:List (Str × Addr)) (fp:List Addr),Q9 (X.blk s H scope (compEnvC scope cl C X.env) fp) W0 ifs t lt)
  (hk:∀ (s:Shared) (H:Hp) (C:Addr) (cl:List (Str × Addr)) (fp:List Addr),Bv (X.blk s H scope (compEnvC scope cl C X.env) fp) W0 kx fk lq)
  (he:∀ (s:Shared) (H:Hp) (C:Addr) (cl:List (Str × Addr)) (fp:List Addr),Bv (X.blk s H scope (compEnvC scope cl C X.env) fp) W0 elt f le)
  (ok:BlkOk X.N X.env.scope scope own:=by exact blkOk_by (by decide +kernel)) (hS:∀ i∈S,i∈own.map (·.2):=by decide) (hs:∀ x,foldedSetIterable iter X.env x=pure x:=by intro _; rfl):
  Bv X W (.DictComp kx elt [⟨tg,iter,ifs,0⟩] scope pos) (jK u (own.map (·.2)) t fk f src lk) (lk ++ (le ++ own.map (·.2))):=by
 obtain ⟨wi,pi,di⟩:=hi
 have dd:=jE (K:=X.K) di (g:=cG X.K u S) (fun μ H0 A0 ρ ρ' σ H d v Q s r e q=>⟨μ,H0,A0,ρ,ρ',d,s,r,e,q⟩) hS (lt:=lt) (tt:=cT X.K W0 t) (fun μ H0 A0 ρ σ H Q s h=>⟨μ,H0,A0,ρ,s,h⟩) (tk:=cE X.K W0 fk lq) (lq:=lq) (fun μ H0 A0 ρ σ H Q s h=>⟨μ,H0,A0,ρ,s,h⟩) (te:=cE X.K W0 f le) (le:=le) (fun μ H0 A0 ρ σ H Q s h=>⟨μ,H0,A0,ρ,s,h⟩)
 exact ⟨_,pe_dc hc hN pi ok (fun s H C cl fp=>(hg s H C cl fp).NC) (fun s H C cl fp=>(ht s H C cl fp).NC) (fun s H C cl fp=>(hk s H C cl fp).NC) (fun s H C cl fp=>(he s H C cl fp).NC) hs,dd⟩
end
section
variable {X:Cx} {K:PySem.W.Frag} {W:WX} {a b:Expr} {fa fb:Env→Out Dt} {la lb:List Nat} {pos:Pos} {j:Nat}
theorem cj{ta tb:TE}(ha:D3 K W ta fa la)(hb:D3 K W tb fb lb):D3 K W (tDIn ta tb) (eT (t2 fa fb DN)) []:=by
 intro μ H0 A0 ρ σ H Q s h
 have e:eT (t2 fa fb DN) ρ=(fa ρ).bind fun a=>(fb ρ).bind fun b=>(GI (DN a b)).bind fun c=>.ok (.bl c):=by
  unfold eT t2
  cases fa ρ with
  | ok a=>cases fb ρ <;> rfl
  | exc x=>rfl
  | bad=>rfl
 rw [e] at h
 refine ha _ _ _ _ _ _ _ s (h.seq fun a ea h1 v1 H1 s1 r1=>?_)
 clear ea
 refine hb _ _ _ _ _ _ _ (s.grow s1) ((h1.grow s1).seq fun b eb h2 v2 H2 s2 r2=>?_)
 clear eb h1
 cases b <;> try (exact False.elim h2)
 rename_i ks ds
 cases ek:keyD a with
 | none=>
  have e:DN a (.dic ks ds)=none:=by unfold DN; rw [ek]; rfl
  rw [e] at h2
  exact False.elim h2
 | some k'=>
  have e:DN a (.dic ks ds)=some (decide (k'∈ks)):=by unfold DN; rw [ek]; rfl
  rw [e] at h2
  obtain ⟨p,kvs,rfl,h3,rfl,r3⟩:=HL r2
  have e1:=JT ek r1
  subst e1
  refine ⟨p,valV kvs k',rfl,.inl ⟨kvs,k',h3,rfl,rfl⟩,?_⟩
  rw [Oi]
  exact h2 _ H2 (s1.trans s2) rfl
theorem iE(hr:Room j X.A)(ha:Bv X W a fa la)(hb:Bv X W b fb lb)(hm:behindInMarks .In b=false:=by first | exact nobehind _ (by decide) (by decide) | rfl):Bv X W (.Compare a [.In] [b] pos) (eT (t2 fa fb DN)) []:=by
 obtain ⟨t,p,d⟩:=ha
 obtain ⟨t',p',d'⟩:=hb
 exact ⟨_,pe_cmp (pc_din (u1 hr) p p') hm,cj d d'⟩
end
end FD
namespace Lk16
open PySem L2 PyProof.Rows PySem.Spec FD
noncomputable def ME(K:PySem.W.Frag)(cs:Cs):FD.Env→SOut:=
 (AE (eB Kx (Ab (eL (O4 (Aa 0))) Ag)) [0])
noncomputable def HU(K:PySem.W.Frag)(cs:Cs):List Dt→Out Dt:=Ct 1 (AB 1 (ME K cs))
noncomputable def MR(K:PySem.W.Frag)(cs:Cs):FD.Env→SOut:=
 (Ao (AW (FC (AY (Ai 2) (AY (Ai 3) Fc))) (AD (Aa 0)) [0]
 (BR (Cb (t2 (Aa 2) (Aa 1) (Dq DN)) (t2 (Aa 3) (e2 (Aa 1) (Aa 2) Au) (cI fun i j=>decide (j < i)))) (AE (eC (.bl false)) []) Ar))
 (AE (eC (.bl true)) []))
noncomputable def FU(K:PySem.W.Frag)(cs:Cs):List Dt→Out Dt:=Ct 2 (AB 4 (MR K cs))
noncomputable def Fw(K:PySem.W.Frag)(cs:Cs):FD.Env→SOut:=
 (Ao (B2 2 (eB Fg (Ab (Aa 1) Ag)) [1])
 (Ao (AW (Ai 3) (AD (Aa 0)) [0]
 (BR (t1 (Aj (FU K cs) (Ab (Aa 3) (Ab (Aa 2) Ag))) AR) (AE (eC (.bl true)) []) Ar))
 (AE (eC (.bl false)) [])))
noncomputable def Bp(K:PySem.W.Frag)(cs:Cs):List Dt→Out Dt:=Ct 2 (AB 4 (Fw K cs))
noncomputable def Mf(K:PySem.W.Frag)(cs:Cs):FD.Env→SOut:=
 (Ao (B2 1 (eL (lB Cw (Ab (eL (EA (Ai 2) [2] AI (GZ (Ab (eB CI (Ab (Aa 2) Ag)) (Ab (eB RD (Ab (eL (EA (FC (AY (Ai 3) (AY (Ai 4) Fc))) [3,4] AI (Aa 4) (AD (Aa 2)) [2])) Ag)) (Ab (Aa 2) Ag)))) (AD (Aa 0)) [0])) Ag))) [0,2,2])
 (Ao (Hh 5 (Fx Ag) [])
 (Ao (AW (FC (AY (Ai 6) (AY (Ai 7) (AY (Ai 2) Fc)))) (AD (Aa 1)) [1]
 (BR (AM (t1 (Aj (Bp K cs) (Ab (Aa 5) (Ab (Aa 2) Ag))) AR)) (Du 5 (Aa 2) [2]) Ar))
 (AE (eB Kh (Ab (eL (lB Cw (Ab (Aa 5) Ag))) Ag)) [5]))))
noncomputable def IT(K:PySem.W.Frag)(cs:Cs):List Dt→Out Dt:=Ct 1 (AB 8 (Mf K cs))
noncomputable def L4(K:PySem.W.Frag)(cs:Cs):FD.Env→SOut:=
 (AE (Aj (IT K cs) (Ab (eL (EA (Ai 1) [1] AI (Aj (HU K cs) (Ab (Aa 1) Ag)) (AD (Aa 0)) [0])) Ag)) [0,1,1])
noncomputable def KN(K:PySem.W.Frag)(cs:Cs):List Dt→Out Dt:=Ct 1 (AB 2 (L4 K cs))
noncomputable def HZ(K:PySem.W.Frag)(cs:Cs):FD.Env→SOut:=
 (Ao (BR (t2 (eB CI (Ab (Aa 0) Ag)) (eC (.int 0)) Lz) Kg Ar)
 (AW (Ai 1) (AD (Aa 0)) [0]
 (BR (t2 (eB Iv (Ab (Aa 1) Ag)) (eC (.int 0)) Lz) Kg Ar)))
noncomputable def GU(K:PySem.W.Frag)(cs:Cs):List Dt→Out Dt:=Ct 1 (AB 2 (HZ K cs))
noncomputable def Jp(K:PySem.W.Frag)(cs:Cs):FD.Env→SOut:=
 (BR (t2 (eB CI (Ab (Aa 0) Ag)) (eC (.int 200)) (cI fun i j=>decide (j < i))) Kg Ar)
noncomputable def Ff(K:PySem.W.Frag)(cs:Cs):List Dt→Out Dt:=Ct 1 (AB 1 (Jp K cs))
noncomputable def FP(K:PySem.W.Frag)(cs:Cs):FD.Env→SOut:=
 (Ao (JK (Aj (GU K cs) (Ab (Aa 0) Ag)))
 (Ao (AW (Ai 2) (AD (Aa 0)) [0]
 (AW (Ai 3) (AD (eL (lB Cw (Ab (eL (lB Cg (Ab (Aa 2) Ag))) Ag)))) [2]
 (BR (t2 (Aa 3) (Aa 1) (Dq DN)) Kg Ar)))
 (Ao (B2 4 (Aj (KN K cs) (Ab (Aa 0) Ag)) [0])
 (Ao (JK (Aj (Ff K cs) (Ab (Aa 4) Ag)))
 (AE (Aa 4) [4])))))
noncomputable def DT(K:PySem.W.Frag)(cs:Cs):List Dt→Out Dt:=Ct 2 (AB 5 (FP K cs))
noncomputable def Ez(K:PySem.W.Frag)(cs:Cs):FD.Env→SOut:=
 (Ao (BR (t2 (eB Iv (Ab (Aa 1) Ag)) (eC (.int 0)) Lz) Kg Ar)
 (Ao (Eb 2)
 (Ao (AW (Ai 3) (AD (eL (lB Cw (Ab (eL (lB Cg (Ab (Aa 1) Ag))) Ag)))) [1]
 (A8 2 (Aa 3) (Aj (DT K cs) (Ab (e2 (Aa 1) (Aa 3) Au) (Ab (Aa 1) Ag))) [1,3,1]))
 (VI 4 (AF cs) "_forms" (Aa 0) (xP (Aa 2)) [2]))))
noncomputable def Be(K:PySem.W.Frag)(cs:Cs):List Dt→List Cell→MO:=LO 2 (runM 4 (Ez K cs))
noncomputable def L8(K:PySem.W.Frag)(cs:Cs):FD.Env→SOut:=
 (Ao (KZ 2 (Ab (Aa 0) Ag))
 (Ao (AW (FC (AY (Ai 3) (AY (Ai 4) Fc))) (AD (Aa 1)) [1]
 (BR (Cb (t2 (Aa 3) (Aa 2) (Dq DN)) (t2 (Aa 4) (e2 (Aa 2) (Aa 3) Au) (cI fun i j=>decide (j < i)))) (A8 2 (Aa 3) (Aa 4) [4]) Ar))
 (AE (Aj (HU K cs) (Ab (Aa 2) Ag)) [2])))
noncomputable def Ky(K:PySem.W.Frag)(cs:Cs):List Dt→Out Dt:=Ct 2 (AB 5 (L8 K cs))
noncomputable def Ms(K:PySem.W.Frag)(cs:Cs):FD.Env→SOut:=
 (AE (Aj (IT K cs) (Ab (eL (bU (Ai 2) [2,3] AI (AD (Aa 1)) [1] (Ai 3) [3] AI (Aj (Ky K cs) (Ab (Aa 2) (Ab (Aa 3) Ag))) (AD (Aa 0)) [0])) Ag)) [0,2,3,2,3])
noncomputable def F8(K:PySem.W.Frag)(cs:Cs):List Dt→Out Dt:=Ct 2 (AB 4 (Ms K cs))
noncomputable def Mi(K:PySem.W.Frag)(cs:Cs):FD.Env→SOut:=
 (Ao (Eb 1)
 (Ao (AW (Ai 2) (AD (eL (lB Cw (Ab (eL (lB Cg (Ab (Aa 0) Ag))) Ag)))) [0]
 (Ao (JK (Aj (Ff K cs) (Ab (e2 (Aa 0) (Aa 2) Au) Ag)))
 (A8 1 (Aa 2) (eL (EA (Ai 3) [3] AI (eB Fg (Ab (Aa 3) Ag)) (AD (e2 (Aa 0) (Aa 2) Au)) [0,2])) [0,2,3,3])))
 (AE (Aj (newD cs.c_Map (Be K cs)) (Ab (Aa 1) Ag)) [1])))
noncomputable def FZ(K:PySem.W.Frag)(cs:Cs):List Dt→Out Dt:=Ct 1 (AB 4 (Mi K cs))
noncomputable def Ih(K:PySem.W.Frag)(cs:Cs):FD.Env→SOut:=
 (AE (eB Kh (Ab (eL (lB Cg (Ab (e1 (Aa 0) (DX (AF cs) "_forms")) Ag))) Ag)) [0])
noncomputable def Ft(K:PySem.W.Frag)(cs:Cs):List Dt→Out Dt:=Ct 1 (AB 1 (Ih K cs))
noncomputable abbrev Bk(K:PySem.W.Frag)(cs:Cs):Ly:=[(cs.c_Map,Ft K cs)]
noncomputable def D2(K:PySem.W.Frag)(cs:Cs):FD.Env→SOut:=
 (AE (eT (t2 (Aa 1) (e1 (Aa 0) (DX (AF cs) "_forms")) DN)) [])
noncomputable def B9(K:PySem.W.Frag)(cs:Cs):List Dt→Out Dt:=Ct 2 (AB 2 (D2 K cs))
noncomputable abbrev Bb(K:PySem.W.Frag)(cs:Cs):Ly:=[(cs.c_Map,B9 K cs)]
noncomputable def Hn(K:PySem.W.Frag)(cs:Cs):FD.Env→SOut:=
 (Ao (Hh 2 (EA (Ai 3) [3] (t1 (Mb (Bb K cs) true (Aa 3) (Aa 1)) AR) (Aa 3) (AD (BM (Bk K cs) "names" (Aa 0) Ag)) [0]) [0,3,3])
 (Ao (B2 2 (e2 (Aa 2) (eL (EA (Ai 3) [3] (t1 (Mb (Bb K cs) true (Aa 3) (Aa 0)) AR) (Aa 3) (AD (BM (Bk K cs) "names" (Aa 1) Ag)) [1])) AV) [2,1,3,3])
 (BR (t2 (eB CI (Ab (Aa 2) Ag)) (eC (.int 0)) (cI fun i j=>decide (j < i))) Kg Ar)))
noncomputable def D6(K:PySem.W.Frag)(cs:Cs):List Dt→Out Dt:=Ct 2 (AB 4 (Hn K cs))
noncomputable def Hj(K:PySem.W.Frag)(cs:Cs):FD.Env→SOut:=
 (Ao (JK (Aj (D6 K cs) (Ab (Aa 0) (Ab (Aa 1) Ag))))
 (Ao (Eb 2)
 (Ao (AW (Ai 3) (AD (BM (Bk K cs) "names" (Aa 0) Ag)) [0]
 (A8 2 (Aa 3) (Aj (F8 K cs) (Ab (e2 (e1 (Aa 0) (DX (AF cs) "_forms")) (Aa 3) Au) (Ab (e2 (e1 (Aa 1) (DX (AF cs) "_forms")) (Aa 3) Au) Ag))) [0,3,1,3]))
 (AE (Aj (FZ K cs) (Ab (Aa 2) Ag)) [2]))))
noncomputable def FW(K:PySem.W.Frag)(cs:Cs):List Dt→Out Dt:=Ct 2 (AB 4 (Hj K cs))
noncomputable abbrev Ay(K:PySem.W.Frag)(cs:Cs):Ly:=[(cs.c_Map,FW K cs)]
noncomputable def MM(K:PySem.W.Frag)(cs:Cs):FD.Env→SOut:=
 (AE (Aj (IT K cs) (Ab (eL (Fx (Qa (Aa 0) (Qa (Aa 1) Ag)))) Ag)) [0,1])
noncomputable def ER(K:PySem.W.Frag)(cs:Cs):List Dt→Out Dt:=Ct 2 (AB 2 (MM K cs))
noncomputable def GG(K:PySem.W.Frag)(cs:Cs):FD.Env→SOut:=
 (Ao (JK (Aj (D6 K cs) (Ab (Aa 0) (Ab (Aa 1) Ag))))
 (Ao (Eb 2)
 (Ao (AW (Ai 3) (AD (BM (Bk K cs) "names" (Aa 0) Ag)) [0]
 (A8 2 (Aa 3) (Aj (ER K cs) (Ab (e2 (e1 (Aa 0) (DX (AF cs) "_forms")) (Aa 3) Au) (Ab (e2 (e1 (Aa 1) (DX (AF cs) "_forms")) (Aa 3) Au) Ag))) [0,3,1,3]))
 (AE (Aj (FZ K cs) (Ab (Aa 2) Ag)) [2]))))
noncomputable def EY(K:PySem.W.Frag)(cs:Cs):List Dt→Out Dt:=Ct 2 (AB 4 (GG K cs))
noncomputable abbrev Aw(K:PySem.W.Frag)(cs:Cs):Ly:=[(cs.c_Map,EY K cs)]
noncomputable def FI(K:PySem.W.Frag)(cs:Cs):FD.Env→SOut:=
 (Ao (JK (Aj (D6 K cs) (Ab (Aa 0) (Ab (Aa 1) Ag))))
 (Ao (AW (Ai 2) (AD (BM (Bk K cs) "names" (Aa 0) Ag)) [0]
 (AW (Ai 3) (AD (e2 (e1 (Aa 1) (DX (AF cs) "_forms")) (Aa 2) Au)) [1,2]
 (BR (AM (t1 (Aj (Bp K cs) (Ab (e2 (e1 (Aa 0) (DX (AF cs) "_forms")) (Aa 2) Au) (Ab (Aa 3) Ag))) AR)) (AE (eC (.bl false)) []) Ar)))
 (AE (eC (.bl true)) [])))
noncomputable def DS(K:PySem.W.Frag)(cs:Cs):List Dt→Out Dt:=Ct 2 (AB 4 (FI K cs))
noncomputable abbrev CW(K:PySem.W.Frag)(cs:Cs):Ly:=[(cs.c_Map,DS K cs)]
noncomputable def JD(K:PySem.W.Frag)(cs:Cs):FD.Env→SOut:=
 (Ao (BR (t2 (Aa 1) (eB CI (Ab (Aa 0) Ag)) (cI fun i j=>decide (i < j))) (B2 2 (eB I0 (Ab (e2 (Aa 0) (Aa 1) Bl) Ag)) []) (B2 2 (e2 (eB I0 (Ab (e2 (eB RD (Ab (Nx (Aa 0) Ik (M6 (eC (.int 63)))) Ag)) (e2 (eC (.int 48271)) (e2 (eC (.int 7)) (Aa 1) (gI HX (· * ·))) AV) (gI HX (· * ·))) Ag)) (eC (.int 1000003)) (gI ZA Int.fmod)) []))
 (Ss (cv 3 (cA (xP (Ab (Aa 2) (Ab (Aa 1) (Ab (eT (t2 (Aa 2) (e2 (eC (.int 10)) (eC (.int 18)) (gI Zk fun i j=>i ^ j.toNat)) (cI fun i j=>decide (j≤i)))) Ag))))) [2,1]) []))
noncomputable def BL(K:PySem.W.Frag)(cs:Cs):List Dt→List Cell→MO:=LO 2 (runM 3 (JD K cs))
noncomputable def Iq(K:PySem.W.Frag)(cs:Cs):FD.Env→SOut:=
 (Ao (KS 6 (Aa 0) (eC (.int 1)) (xP (e2 (e2 (IV 6 (Aa 0)) (eC (.int 1)) Bl) (eC (.int 1)) AV)) [])
 (Ao (BR (t1 (e2 (IV 6 (Aa 0)) (eC (.int 2)) Bl) AR) (Ao (B2 2 (e2 (eB I0 (Ab (e2 (IV 6 (Aa 0)) (eC (.int 0)) Bl) Ag)) (Aa 1) (gI ZA Int.fmod)) [])
 (Ao (KS 6 (Aa 0) (eC (.int 0)) (xP (e2 (eB I0 (Ab (e2 (IV 6 (Aa 0)) (eC (.int 0)) Bl) Ag)) (Aa 1) (gI Ry Int.fdiv))) [])
 (AE (Aa 2) [2]))) Ar)
 (Ao (B2 3 (e2 (eB I0 (Ab (e2 (e2 (IV 6 (Aa 0)) (eC (.int 0)) Bl) (e2 (eC (.int 48271)) (e2 (eC (.int 69621)) (e2 (IV 6 (Aa 0)) (eC (.int 1)) Bl) (gI HX (· * ·))) AV) (gI HX (· * ·))) Ag)) (eC (.int 2147483647)) (gI ZA Int.fmod)) [])
 (Ao (B2 4 (e2 (eB I0 (Ab (e2 (e2 (Aa 3) (Aa 3) (gI HX (· * ·))) (e2 (Aa 3) (e2 (e2 (IV 6 (Aa 0)) (eC (.int 1)) Bl) (eC (.int 1013)) AV) (gI HX (· * ·))) AV) Ag)) (eC (.int 2147483629)) (gI ZA Int.fmod)) [])
 (Ao (B2 5 (e2 (eB I0 (Ab (e2 (Aa 4) (e2 (e2 (Aa 4) (eC (.int 7)) (gI Ry Int.fdiv)) (eC (.int 40692)) AV) (gI HX (· * ·))) Ag)) (eC (.int 2147483587)) (gI ZA Int.fmod)) [])
 (AE (e2 (eB I0 (Ab (e2 (e2 (e2 (Aa 5) (eC (.int 16)) (gI Ry Int.fdiv)) (e2 (eC (.int 5)) (e2 (IV 6 (Aa 0)) (eC (.int 1)) Bl) (gI HX (· * ·))) AV) (e2 (e2 (IV 6 (Aa 0)) (eC (.int 1)) Bl) (eC (.int 3)) (gI Ry Int.fdiv)) AV) Ag)) (Aa 1) (gI ZA Int.fmod)) []))))))
noncomputable def Ap(K:PySem.W.Frag)(cs:Cs):List Dt→List Cell→MO:=LO 2 (runM 6 (Iq K cs))
noncomputable def Hk(K:PySem.W.Frag)(cs:Cs):FD.Env→SOut:=
 (Ao (AW (Ai 1) (Dr (Ab (e2 (eB CI (Ab (Aa 0) Ag)) (eC (.int 1)) AV) Ag)) []
 (BR (t2 (e2 (eC (.str "n")) (eB Ll (Ab (Aa 1) Ag)) AV) (Aa 0) (Dq LL)) (AE (e2 (eC (.str "n")) (eB Ll (Ab (Aa 1) Ag)) AV) []) Ar))
 (AE (eC (.str "n")) []))
noncomputable def ED(K:PySem.W.Frag)(cs:Cs):List Dt→Out Dt:=Ct 1 (AB 2 (Hk K cs))
noncomputable def Iu(K:PySem.W.Frag)(cs:Cs):FD.Env→SOut:=
 (Ao (B2 1 (eC (.str "abcdefghijklmnopqrstuvwxyz")) [])
 (Ao (OH (WU (Az 5 (Ap K cs) (xP (Ab (Aa 0) (Ab (eC (.int 3)) Ag))) [0]) (xP (eC (.int 0))) (cI fun i j=>decide (j < i))) (Ss (x2 (xP (eL (Fx (Ab (eC (.str "b")) (Ab (eC (.str "a")) (Ab (eC (.str "a.2")) (Ab (eC (.str "ab")) (Ab (eC (.str "cut")) (Ab (eC (.str "a.3")) (Ab (eC (.str "m1")) (Ab (eC (.str "z.9z")) Ag))))))))))) (Az 5 (Ap K cs) (xP (Ab (Aa 0) (Ab (eC (.int 8)) Ag))) [0]) Bl) []) Ar)
 (Ao (BO 2 (x2 (xP (Aa 1)) (Az 5 (Ap K cs) (xP (Ab (Aa 0) (Ab (eC (.int 26)) Ag))) [0]) Bl) [])
 (Ao (BO 3 (Az 5 (Ap K cs) (xP (Ab (Aa 0) (Ab (eC (.int 4)) Ag))) [0]) [])
 (Ao (OH (WU (Az 5 (Ap K cs) (xP (Ab (Aa 0) (Ab (eC (.int 8)) Ag))) [0]) (xP (eC (.int 5))) Lz) (B2 3 (eC (.int 13)) []) Ar)
 (Ao (AW (Ai 4) (Dr (Ab (Aa 3) Ag)) []
 (BO 2 (x2 (xP (Aa 2)) (x2 (xP (e2 (Aa 1) (eC (.str "0123456789.")) AV)) (Az 5 (Ap K cs) (xP (Ab (Aa 0) (Ab (eC (.int 37)) Ag))) [0]) Bl) AV) [2,1]))
 (AE (Aa 2) [2])))))))
noncomputable def Fm(K:PySem.W.Frag)(cs:Cs):List Dt→List Cell→MO:=LO 1 (runM 5 (Iu K cs))
noncomputable def Hr(K:PySem.W.Frag)(cs:Cs):FD.Env→SOut:=
 (Ao (Hh 2 (Fx Ag) [])
 (Ao (AW (Ai 3) (Dr (Ab (Aa 1) Ag)) []
 (Ao (BO 4 (Az 5 (Fm K cs) (xP (Ab (Aa 0) Ag)) [0]) [])
 (Ao (BR (t2 (Aa 4) (Aa 2) LL) (B2 4 (Aj (ED K cs) (Ab (Aa 2) Ag)) [2]) Ar)
 (Du 2 (Aa 4) [4]))))
 (AE (Aa 2) [2])))
noncomputable def F3(K:PySem.W.Frag)(cs:Cs):List Dt→List Cell→MO:=LO 2 (runM 5 (Hr K cs))
noncomputable def GC(K:PySem.W.Frag)(cs:Cs):FD.Env→SOut:=
 (Ao (B2 1 (eL (Fx (Ab (GZ (Ab (eC (.int 3)) (Ab (eC (.int 0)) Ag))) (Ab (GZ (Ab (eC (.int 2)) (Ab (eC (.int 0)) Ag))) (Ab (GZ (Ab (eC (.int 7)) (Ab (e2 (eC (.int 0)) (eC (.int 3)) (OL (· - ·))) Ag))) (Ab (GZ (Ab (eC (.int 7)) (Ab (e2 (eC (.int 0)) (eC (.int 3)) (OL (· - ·))) Ag))) (Ab (GZ (Ab (eC (.int 20)) (Ab (e2 (eC (.int 0)) (eC (.int 10)) (OL (· - ·))) Ag))) (Ab (GZ (Ab (eC (.int 2000001)) (Ab (e2 (eC (.int 0)) (eC (.int 1000000)) (OL (· - ·))) Ag))) (Ab (GZ (Ab (eC (.int 4)) (Ab (e2 (eC (.int 10)) (eC (.int 20)) (gI Zk fun i j=>i ^ j.toNat)) Ag))) Ag))))))))) [])
 (Ss (x2 (xP (e2 (Aa 1) (eL (Fx (Ab (GZ (Ab (eC (.int 4)) (Ab (e2 (eC (.int 0)) (e2 (eC (.int 10)) (eC (.int 20)) (gI Zk fun i j=>i ^ j.toNat)) (OL (· - ·))) Ag))) Ag))) AV)) (Az 2 (Ap K cs) (xP (Ab (Aa 0) (Ab (eC (.int 8)) Ag))) [0]) Bl) [1]))
noncomputable def E3(K:PySem.W.Frag)(cs:Cs):List Dt→List Cell→MO:=LO 1 (runM 2 (GC K cs))
noncomputable def Js(K:PySem.W.Frag)(cs:Cs):FD.Env→SOut:=
 (Ao (BO 3 (Az 6 (Ap K cs) (xP (Ab (Aa 0) (Ab (eB CI (Ab (Aa 1) Ag)) Ag))) [0]) [])
 (Ao (BO 4 (Kq 6) [])
 (Ao (AW (Ai 5) (AD (e2 (Nx (Aa 1) (M6 (Aa 3)) Ik) (Nx (Aa 1) Ik (M6 (Aa 3))) AV)) [1,1]
 (OH (WU (Az 6 (Ap K cs) (xP (Ab (Aa 0) (Ab (eC (.int 2)) Ag))) [0]) (xP (eC (.int 0))) Lz) (HF 6 (Aa 4) (Aa 5) (x2 (Az 6 (Ap K cs) (xP (Ab (Aa 0) (Ab (e2 (Aa 2) (eC (.int 0)) Bl) Ag))) [0]) (xP (e2 (Aa 2) (eC (.int 1)) Bl)) AV) []) Ar))
 (Ao (BR (t2 (QM 6 4) (eC (.int 0)) Lz) (HF 6 (Aa 4) (e2 (Aa 1) (Aa 3) Bl) (x2 (Az 6 (Ap K cs) (xP (Ab (Aa 0) (Ab (e2 (Aa 2) (eC (.int 0)) Bl) Ag))) [0]) (xP (e2 (Aa 2) (eC (.int 1)) Bl)) AV) []) Ar)
 (AE (Aa 4) [4])))))
noncomputable def Er(K:PySem.W.Frag)(cs:Cs):List Dt→List Cell→MO:=LO 3 (runM 6 (Js K cs))
noncomputable def Hz(K:PySem.W.Frag)(cs:Cs):FD.Env→SOut:=
 (Ao (Eb 5)
 (Ao (AW (Ai 6) (Dr (Ab (eB CI (Ab (Aa 2) Ag)) Ag)) []
 (Ao (BO 7 (Az 12 (BL K cs) (xP (Ab (Aa 0) (Ab (e2 (Aa 1) (Aa 6) AV) Ag))) [0,1,6]) [])
 (Ao (Hh 8 (Fx Ag) [])
 (Ao (Se (Ai 9) (Jy (LZ (x2 (xP (eC (.int 1))) (Az 12 (Ap K cs) (xP (Ab (Aa 7) (Ab (e2 (eL (Fx (Ab (eC (.int 2)) (Ab (eC (.int 1)) (Ab (eC (.int 3)) Ag))))) (Aa 4) Bl) Ag))) [7,4]) AV) (xP Ag))) []
 (Ao (BO 10 (Az 12 (Er K cs) (xP (Ab (Aa 7) (Ab (Aa 2) (Ab (Aa 3) Ag)))) [7,2,3]) [])
 (Ao (AW (Ai 11) (AD (Nx (eL (II 12 10)) (M6 (e2 (eL (Fx (Ab (eC (.int 2)) (Ab (eC (.int 3)) (Ab (eC (.int 1)) Ag))))) (Aa 4) Bl)) Ik)) []
 (G8 12 10 (Aa 11)))
 (FE 8 (LC 12 (Aa 10)) []))))
 (A8 5 (e2 (Aa 2) (Aa 6) Bl) (Aa 8) [8])))))
 (AE (Aa 5) [5])))
noncomputable def Dz(K:PySem.W.Frag)(cs:Cs):List Dt→Out Dt:=Ct 5 (QP 12 (Hz K cs))
noncomputable def Ig(K:PySem.W.Frag)(cs:Cs):FD.Env→SOut:=
 (Ao (Eb 1)
 (Ao (DU 0 (Ai 2)
 (A8 1 (Aa 2) (eL (EA (Ai 3) [3] AI (eB FT (Ab (Aa 3) Ag)) (AD (e2 (Aa 0) (Aa 2) Au)) [0,2])) [0,2,3,3]))
 (AE (Aa 1) [1])))
noncomputable def C9(K:PySem.W.Frag)(cs:Cs):List Dt→Out Dt:=Ct 1 (AB 4 (Ig K cs))
noncomputable def JA(K:PySem.W.Frag)(cs:Cs):FD.Env→SOut:=
 (Ao (BR (t2 (Aa 1) (e1 (Aa 0) (DX (AF cs) "_forms")) (Dq DN)) Kg Ar)
 (AE (e2 (e1 (Aa 0) (DX (AF cs) "_forms")) (Aa 1) Au) [0,1]))
noncomputable def Gi(K:PySem.W.Frag)(cs:Cs):List Dt→Out Dt:=Ct 2 (AB 2 (JA K cs))
noncomputable abbrev ML(K:PySem.W.Frag)(cs:Cs):Ly:=[(cs.c_Map,Gi K cs)]
noncomputable def GF(K:PySem.W.Frag)(cs:Cs):FD.Env→SOut:=
 (AE (eB Iv (Ab (e1 (Aa 0) (DX (AF cs) "_forms")) Ag)) [])
noncomputable def Eg(K:PySem.W.Frag)(cs:Cs):List Dt→Out Dt:=Ct 1 (AB 1 (GF K cs))
noncomputable abbrev Gu(K:PySem.W.Frag)(cs:Cs):Ly:=[(cs.c_Map,Eg K cs)]
noncomputable def Ht(K:PySem.W.Frag)(cs:Cs):FD.Env→SOut:=
 (Ao (DU 0 (Ai 2)
 (BR (Cb (t2 (Aa 2) (Aa 1) (Dq DN)) (t2 (e2 (Aa 0) (Aa 2) Au) (e2 (Aa 1) (Aa 2) Au) (cI fun i j=>decide (j < i)))) (AE (eC (.bl false)) []) Ar))
 (AE (eC (.bl true)) []))
noncomputable def AO(K:PySem.W.Frag)(cs:Cs):List Dt→Out Dt:=Ct 2 (AB 3 (Ht K cs))
noncomputable def Iz(K:PySem.W.Frag)(cs:Cs):FD.Env→SOut:=
 (AE (eB Kx (Ab (eL (lB Cw (Ab (eL (Kc (Aa 0))) Ag))) Ag)) [0])
noncomputable def G1(K:PySem.W.Frag)(cs:Cs):List Dt→Out Dt:=Ct 1 (AB 1 (Iz K cs))
noncomputable def FQ(K:PySem.W.Frag)(cs:Cs):FD.Env→SOut:=
 (AE (OJ (eB EM (Ab (Aa 0) (Ab (eC (.ty "int")) Ag))) (hZ (eB EM (Ab (Aa 0) (Ab (eC (.ty "bool")) Ag))))) [])
noncomputable def Bz(K:PySem.W.Frag)(cs:Cs):List Dt→Out Dt:=Ct 1 (AB 1 (FQ K cs))
noncomputable def Im(K:PySem.W.Frag)(cs:Cs):FD.Env→SOut:=
 (Ao (BR (Cb (AM (t1 (eB EM (Ab (Aa 0) (Ab (eC (.ty "tuple")) Ag))) AR)) (t2 (eB CI (Ab (Aa 0) Ag)) (eC (.int 0)) Lz)) (AE (eC .non) []) Ar)
 (Ao (Hh 1 (Fx Ag) [])
 (Ao (AW (Ai 2) (AD (Aa 0)) [0]
 (Ao (BR (Cb (AM (t1 (eB EM (Ab (Aa 2) (Ab (eC (.ty "tuple")) Ag))) AR)) (t2 (eB CI (Ab (Aa 2) Ag)) (eC (.int 0)) Lz)) (AE (eC .non) []) Ar)
 (Ao (Eb 3)
 (Ao (B2 4 (eC (.str "")) [])
 (Ao (AW (Ai 5) (AD (Aa 2)) [2]
 (Ao (BR (Cb (AM (t1 (eB EM (Ab (Aa 5) (Ab (eC (.ty "tuple")) Ag))) AR)) (t2 (eB CI (Ab (Aa 5) Ag)) (eC (.int 2)) Q4)) (AE (eC .non) []) Ar)
 (Ao (BR (Cb (AM (t1 (eB EM (Ab (e2 (Aa 5) (eC (.int 0)) Bl) (Ab (eC (.ty "str")) Ag))) AR)) (Cb (AM (t1 (Aj (Bz K cs) (Ab (e2 (Aa 5) (eC (.int 1)) Bl) Ag)) AR)) (t2 (e2 (Aa 5) (eC (.int 0)) Bl) (Aa 4) (Lm .LtE)))) (AE (eC .non) []) Ar)
 (Ao (B2 4 (e2 (Aa 5) (eC (.int 0)) Bl) [])
 (A8 3 (Aa 4) (e2 (Aa 5) (eC (.int 1)) Bl) [])))))
 (Du 1 (Aa 3) [3]))))))
 (AE (Aa 1) [1]))))
noncomputable def Io(K:PySem.W.Frag)(cs:Cs):List Dt→Out Dt:=Ct 1 (AB 6 (Im K cs))
noncomputable def GK(K:PySem.W.Frag)(cs:Cs):FD.Env→SOut:=
 (Ao (B2 2 (Aj (Io K cs) (Ab (Aa 0) Ag)) [0])
 (Ao (BR (t2 (Aa 2) (eC .non) isN) (AE (eC (.bl false)) []) Ar)
 (Ao (Hh 3 (EA (Ai 4) [4] AI (Aj (G1 K cs) (Ab (Aa 4) Ag)) (AD (Aa 1)) [1]) [1,4,4])
 (Ao (AW (Ai 5) (Dr (Ab (eB CI (Ab (Aa 0) Ag)) Ag)) []
 (Ao (BR (Cb (t2 (e2 (Aa 0) (Aa 5) Bl) (Aa 3) (Dq Rq)) (IX (t2 (Aa 5) (eC (.int 0)) (cI fun i j=>decide (j < i))) (AM (t2 (e2 (Aa 0) (e2 (Aa 5) (eC (.int 1)) (OL (· - ·))) Bl) (e2 (Aa 0) (Aa 5) Bl) (Lm .Lt))))) (AE (eC (.bl false)) []) Ar)
 (AW (Ai 6) (Dr (Ab (eB CI (Ab (Aa 2) Ag)) Ag)) []
 (BR (IX (t2 (Aa 6) (Aa 5) Q4) (t1 (Aj (AO K cs) (Ab (e2 (Aa 2) (Aa 6) Bl) (Ab (e2 (Aa 2) (Aa 5) Bl) Ag))) AR)) (AE (eC (.bl false)) []) Ar))))
 (Ao (AW (Ai 4) (AD (Aa 1)) [1]
 (BR (AM (t1 (eB JV (Ab (eL (EA (Ai 7) [7] AI (Aj (AO K cs) (Ab (Aa 7) (Ab (Aa 4) Ag))) (AD (Aa 2)) [2])) Ag)) AR)) (AE (eC (.bl false)) []) Ar))
 (AE (eC (.bl true)) []))))))
noncomputable def DI(K:PySem.W.Frag)(cs:Cs):List Dt→Out Dt:=Ct 2 (AB 8 (GK K cs))
noncomputable def Hu(K:PySem.W.Frag)(cs:Cs):FD.Env→SOut:=
 (Ao (B2 2 (eB Kh (Ab (eL (lB Cw (Ab (eL (lB Cg (Ab (Aa 1) Ag))) Ag))) Ag)) [1])
 (Ao (B2 3 (BM (Bk K cs) "names" (Aa 0) Ag) [0])
 (Ao (BR (Cb (AM (t1 (eB EM (Ab (Aa 3) (Ab (eC (.ty "tuple")) Ag))) AR)) (Cb (t2 (Aa 3) (Aa 2) Q4) (t2 (SA (Gu K cs) (Ab (Aa 0) Ag)) (eB CI (Ab (Aa 2) Ag)) Q4))) (AE (eC (.bl false)) []) Ar)
 (Ao (AW (Ai 4) (AD (Aa 2)) [2]
 (BR (Cb (t1 (Mb (Bb K cs) true (Aa 4) (Aa 0)) AR) (AM (t1 (Aj (DI K cs) (Ab (BM (ML K cs) "form" (Aa 0) (Ab (Aa 4) Ag)) (Ab (e2 (Aa 1) (Aa 4) Au) Ag))) AR))) (AE (eC (.bl false)) []) Ar))
 (AE (eC (.bl true)) [])))))
noncomputable def BG(K:PySem.W.Frag)(cs:Cs):List Dt→Out Dt:=Ct 2 (AB 5 (Hu K cs))
noncomputable def GD(K:PySem.W.Frag)(cs:Cs):FD.Env→SOut:=
 (Ao (Eb 2)
 (Ao (DU 1 (Ai 3)
 (Ao (Hh 4 (Fx Ag) [])
 (Ao (AW (Ai 5) (AD (e2 (Aa 1) (Aa 3) Au)) [1,3]
 (Ao (Eb 6)
 (Ao (DU 5 (Ai 7)
 (EL 6 (Aa 7) (x2 (xP (e2 (Aa 5) (Aa 7) Au)) (Az 8 (Ap K cs) (xP (Ab (Aa 0) (Ab (eC (.int 2)) Ag))) [0]) AV) [5,7]))
 (Du 4 (Aa 6) [6]))))
 (A8 2 (Aa 3) (Aa 4) [4]))))
 (AE (Aa 2) [2])))
noncomputable def DD(K:PySem.W.Frag)(cs:Cs):List Dt→List Cell→MO:=LO 2 (runM 8 (GD K cs))
noncomputable def Ju(K:PySem.W.Frag)(cs:Cs):FD.Env→SOut:=
 (AE (eB Lw (Ab (eL (EA (Ai 2) [2] AI (eB Gb (Ab (eL (EA (FC (AY (Ai 3) (AY (Ai 4) Fc))) [3,4] AI (e2 (e2 (Aa 1) (Aa 3) Au) (Aa 4) AV) (AD (Aa 2)) [2])) Ag)) (AD (Aa 0)) [0])) Ag)) [])
noncomputable def Gq(K:PySem.W.Frag)(cs:Cs):List Dt→Out Dt:=Ct 2 (AB 5 (Ju K cs))
noncomputable def FV(K:PySem.W.Frag)(cs:Cs):FD.Env→SOut:=
 (Ao (AW (Ai 2) (AD (BM (Bk K cs) "names" (Aa 0) Ag)) [0]
 (BR (t2 (Aa 2) (Aa 1) (Dq DN)) Kg Ar))
 (AE (jK (Ai 2) [2] AI (Aa 2) (Aj (Gq K cs) (Ab (e2 (e1 (Aa 0) (DX (AF cs) "_forms")) (Aa 2) Au) (Ab (Aa 1) Ag))) (AD (BM (Bk K cs) "names" (Aa 0) Ag)) [0]) [0,0,2,1,2]))
noncomputable def Dj(K:PySem.W.Frag)(cs:Cs):List Dt→Out Dt:=Ct 2 (AB 3 (FV K cs))
noncomputable abbrev CV(K:PySem.W.Frag)(cs:Cs):Ly:=[(cs.c_Map,Dj K cs)]
noncomputable def Hx(K:PySem.W.Frag)(cs:Cs):FD.Env→SOut:=
 (AE (OJ (eB (Ux cs.c_Map (WG cs)) (Ab (Aa 1) (Ab (eC (.cls cs.c_Map)) Ag))) (eT (t2 (e1 (Aa 0) (DX (AF cs) "_forms")) (e1 (Aa 1) (DX (AF cs) "_forms")) (Si false)))) [])
noncomputable def D1(K:PySem.W.Frag)(cs:Cs):List Dt→Out Dt:=Ct 2 (AB 2 (Hx K cs))
noncomputable abbrev Jl(K:PySem.W.Frag)(cs:Cs):Ly:=[(cs.c_Map,D1 K cs)]
noncomputable def FH(K:PySem.W.Frag)(cs:Cs):FD.Env→SOut:=
 (Ao (DU 0 (Ai 2)
 (AW (Ai 3) (AD (e2 (Aa 1) (Aa 2) Au)) [1,2]
 (BR (AM (t1 (eB JV (Ab (eL (EA (Ai 4) [4] AI (Aj (AO K cs) (Ab (Aa 4) (Ab (Aa 3) Ag))) (AD (e2 (Aa 0) (Aa 2) Au)) [0,2])) Ag)) AR)) (AE (GZ (Ab (Aa 2) (Ab (Aa 3) Ag))) [2,3]) Ar)))
 (AE (GZ (Ab (eC (.str "")) (Ab (eC (.dic [] [])) Ag))) []))
noncomputable def Ep(K:PySem.W.Frag)(cs:Cs):List Dt→Out Dt:=Ct 2 (AB 5 (FH K cs))
noncomputable def Jf(K:PySem.W.Frag)(cs:Cs):FD.Env→SOut:=
 (AE (e2 (eC (.int 1)) (eB Gb (Ab (eL (JC 0 (Ai 1) [1] AI (eB Gb (Ab (eL (EA (Ai 2) [2] AI (eB Gb (Ab (eL (JC 2 (Ai 3) [3] AI (eB Ra (Ab (e2 (Aa 2) (Aa 3) Au) Ag)))) Ag)) (AD (e2 (Aa 0) (Aa 1) Au)) [0,1])) Ag)))) Ag)) AV) [])
noncomputable def Ca(K:PySem.W.Frag)(cs:Cs):List Dt→Out Dt:=Ct 1 (AB 4 (Jf K cs))
noncomputable def Hi(K:PySem.W.Frag)(cs:Cs):FD.Env→SOut:=
 (AE (OJ (eB EM (Ab (Aa 0) (Ab (eC (.ty "bool")) Ag))) (eT (t2 (Aa 0) (Aa 1) Lz))) [])
noncomputable def D5(K:PySem.W.Frag)(cs:Cs):List Dt→Out Dt:=Ct 2 (AB 2 (Hi K cs))
noncomputable def Hy(K:PySem.W.Frag)(cs:Cs):FD.Env→SOut:=
 (Ao (aE (FC (AY (Ai 5) (AY (Ai 6) Fc))) (Aj (Ep K cs) (Ab (Aa 2) (Ab (Aa 3) Ag))) [2,3])
 (Ao (B2 7 (eT (t2 (Aa 5) (eC (.str "")) Lz)) [])
 (Ao (BR (Cb (AM (t1 (Aj (D5 K cs) (Ab (BM (CW K cs) "is_below" (Aa 0) (Ab (Aa 1) Ag)) (Ab (Aa 7) Ag))) AR)) (AM (t1 (Aj (D5 K cs) (Ab (El (Jl K cs) (AS (Ay K cs) (Aa 0) (Aa 1)) (Aa 1)) (Ab (Aa 7) Ag))) AR))) (AE (eC (.bl false)) []) Ar)
 (Ao (BR (AM (t1 (Aj (D5 K cs) (Ab (El (Jl K cs) (AS (Aw K cs) (Aa 0) (Aa 1)) (Aa 0)) (Ab (Aa 7) Ag))) AR)) (AE (eC (.bl false)) []) Ar)
 (Ao (BR (t1 (Aa 7) AR) (AE (eC (.bl true)) []) Ar)
 (Ao (Eb 8)
 (Ao (AW (Ai 9) (AD (Aa 4)) [4]
 (A8 8 (Aa 9) (e2 (Aj (Ca K cs) (Ab (Aa 2) Ag)) (Aj (Ca K cs) (Ab (Aa 3) Ag)) AV) [2,3]))
 (Ao (DU 6 (Ai 9)
 (A8 8 (Aa 9) (e2 (eC (.int 0)) (e2 (Aa 6) (Aa 9) Au) (OL (· - ·))) []))
 (AE (eT (t2 (e2 (RN (CV K cs) (Aa 0) (Ab (Aa 8) Ag)) (Aa 5) Au) (e2 (RN (CV K cs) (Aa 1) (Ab (Aa 8) Ag)) (Aa 5) Au) (cI fun i j=>decide (j < i)))) [])))))))))
noncomputable def CN(K:PySem.W.Frag)(cs:Cs):List Dt→Out Dt:=Ct 5 (AB 10 (Hy K cs))
noncomputable def Hw(K:PySem.W.Frag)(cs:Cs):FD.Env→SOut:=
 (Ao (Eb 2)
 (Ao (DU 0 (Ai 3)
 (A8 2 (Aa 3) (eB Lw (Ab (eL (EA (Ai 4) [4] AI (eB Gb (Ab (eL (JC 4 (Ai 5) [5] AI (e2 (e2 (Aa 1) (Aa 5) Au) (e2 (Aa 4) (Aa 5) Au) AV))) Ag)) (AD (e2 (Aa 0) (Aa 3) Au)) [0,3])) Ag)) []))
 (AE (Aa 2) [2])))
noncomputable def FR(K:PySem.W.Frag)(cs:Cs):List Dt→Out Dt:=Ct 2 (AB 6 (Hw K cs))
noncomputable def Hq(K:PySem.W.Frag)(cs:Cs):FD.Env→SOut:=
 (Ao (B2 3 (eL (Kc (Aa 1))) [1])
 (Ao (B2 4 (RN (CV K cs) (Aa 0) (Ab (Aa 1) Ag)) [0,1])
 (Ao (BR (Cb (AM (t1 (eB EM (Ab (Aa 4) (Ab (eC (.ty "dict")) Ag))) AR)) (Cb (t2 (eL (lB Cg (Ab (Aa 4) Ag))) (eL (lB Cw (Ab (eL (lB Cg (Ab (Aa 2) Ag))) Ag))) Q4) (t2 (eL (Kc (Aa 1))) (Aa 3) Q4))) (AE (eC (.bl false)) []) Ar)
 (AE (eB U7 (Ab (eL (JC 2 (Ai 5) [5] AI (OJ (Aj (Bz K cs) (Ab (e2 (Aa 4) (Aa 5) Au) Ag)) (eT (t2 (e2 (Aa 4) (Aa 5) Au) (e2 (Aa 2) (Aa 5) Au) Lz))))) Ag)) []))))
noncomputable def FY(K:PySem.W.Frag)(cs:Cs):List Dt→Out Dt:=Ct 3 (AB 6 (Hq K cs))
noncomputable def D8(K:PySem.W.Frag)(cs:Cs):FD.Env→SOut:=
 (Ao (Eb 2)
 (Ao (AW (Ai 3) (AD (eL (cw (Aa 1)))) [1]
 (EL 2 (Aa 3) (x2 (Az 4 (Ap K cs) (xP (Ab (Aa 0) (Ab (eC (.int 61)) Ag))) [0]) (xP (eC (.int 30))) (OL (· - ·))) []))
 (AE (Aa 2) [2])))
noncomputable def D0(K:PySem.W.Frag)(cs:Cs):List Dt→List Cell→MO:=LO 2 (runM 4 (D8 K cs))
noncomputable def Gz(K:PySem.W.Frag)(cs:Cs):FD.Env→SOut:=
 (Ao (Eb 2)
 (Ao (DU 0 (Ai 3)
 (A8 2 (Aa 3) (eL (EA (Ai 4) [4] AI (eB FT (Ab (Aa 4) Ag)) (AD (e2 (e2 (Aa 0) (Aa 3) Au) (e2 (Aa 1) (Aa 3) Au) AV)) [0,3,1,3])) [0,3,1,3,4,4]))
 (AE (Aa 2) [2])))
noncomputable def GJ(K:PySem.W.Frag)(cs:Cs):List Dt→Out Dt:=Ct 2 (AB 5 (Gz K cs))
noncomputable def GH(K:PySem.W.Frag)(cs:Cs):FD.Env→SOut:=
 (Ao (M7 3 (Ab (Aa 0) Ag) [0])
 (Ao (DU 1 (Ai 4)
 (Ao (B2 5 (e2 (e2 (Aa 1) (Aa 4) Au) (Aa 2) AV) [1,4,2])
 (BR (Cb (t2 (Aa 4) (Aa 3) (Dq DN)) (t2 (e2 (Aa 3) (Aa 4) Au) (Aa 5) (cI fun i j=>decide (i < j)))) (A8 3 (Aa 4) (Aa 5) [5]) Ar)))
 (AE (Aa 3) [3])))
noncomputable def CT(K:PySem.W.Frag)(cs:Cs):List Dt→Out Dt:=Ct 3 (AB 6 (GH K cs))
noncomputable def Ic(K:PySem.W.Frag)(cs:Cs):FD.Env→SOut:=
 (Ao (Eb 2)
 (Ao (DU 0 (Ai 3)
 (Ao (B2 4 (eL (Fx Ag)) [])
 (Ao (AW (Ai 5) (AD (e2 (Aa 0) (Aa 3) Au)) [0,3]
 (B2 4 (e2 (Aa 4) (eL (EA (Ai 6) [6] AI (Aj (CT K cs) (Ab (Aa 5) (Ab (Aa 6) (Ab (eC (.int 0)) Ag)))) (AD (e2 (Aa 1) (Aa 3) Au)) [1,3])) AV) [4,1,3,5,6,6]))
 (A8 2 (Aa 3) (Aa 4) [4]))))
 (AE (Aa 2) [2])))
noncomputable def Ia(K:PySem.W.Frag)(cs:Cs):List Dt→Out Dt:=Ct 2 (AB 7 (Ic K cs))
noncomputable def EB(K:PySem.W.Frag)(cs:Cs):FD.Env→SOut:=
 (Ao (BR (AM (t1 (Aj (BG K cs) (Ab (AS (Ay K cs) (Aa 0) (Aa 1)) (Ab (Aj (Ia K cs) (Ab (Aa 2) (Ab (Aa 3) Ag))) Ag))) AR)) (AE (eC (.bl false)) []) Ar)
 (Ao (BR (AM (t1 (Aj (BG K cs) (Ab (AS (Aw K cs) (Aa 0) (Aa 1)) (Ab (Aj (GJ K cs) (Ab (Aa 2) (Ab (Aa 3) Ag))) Ag))) AR)) (AE (eC (.bl false)) []) Ar)
 (Ao (BO 6 (Az 12 (D0 K cs) (xP (Ab (Aa 4) (Ab (Aa 5) Ag))) [4,5]) [])
 (Ao (B2 7 (Aj (FR K cs) (Ab (Aa 2) (Ab (Aa 6) Ag))) [2,6])
 (Ao (B2 8 (Aj (FR K cs) (Ab (Aa 3) (Ab (Aa 6) Ag))) [3,6])
 (Ao (Eb 9)
 (Ao (Eb 10)
 (Ao (AW (Ai 11) (AD (Aa 5)) [5]
 (Ao (A8 9 (Aa 11) (eB MV (Ab (e2 (Aa 7) (Aa 11) Au) (Ab (e2 (Aa 8) (Aa 11) Au) Ag))) [])
 (A8 10 (Aa 11) (eB Mh (Ab (e2 (Aa 7) (Aa 11) Au) (Ab (e2 (Aa 8) (Aa 11) Au) Ag))) [])))
 (AE (OJ (Aj (FY K cs) (Ab (AS (Ay K cs) (Aa 0) (Aa 1)) (Ab (Aa 6) (Ab (Aa 9) Ag)))) (Aj (FY K cs) (Ab (AS (Aw K cs) (Aa 0) (Aa 1)) (Ab (Aa 6) (Ab (Aa 10) Ag))))) [0,1,6,10])))))))))
noncomputable def DQ(K:PySem.W.Frag)(cs:Cs):List Dt→List Cell→MO:=LO 6 (runM 12 (EB K cs))
noncomputable def FG(K:PySem.W.Frag)(cs:Cs):FD.Env→SOut:=
 (Ao (BR (Cb (AM (t1 (El (Jl K cs) (AS (Ay K cs) (Aa 0) (Aa 1)) (AS (Ay K cs) (Aa 1) (Aa 0))) AR)) (AM (t1 (El (Jl K cs) (AS (Aw K cs) (Aa 0) (Aa 1)) (AS (Aw K cs) (Aa 1) (Aa 0))) AR))) (AE (eC (.bl false)) []) Ar)
 (Ao (BR (Cb (AM (t1 (El (Jl K cs) (AS (Ay K cs) (Aa 0) (Aa 0)) (Aa 0)) AR)) (AM (t1 (El (Jl K cs) (AS (Aw K cs) (Aa 0) (Aa 0)) (Aa 0)) AR))) (AE (eC (.bl false)) []) Ar)
 (Ao (BR (Cb (AM (t1 (El (Jl K cs) (AS (Ay K cs) (Aa 0) (AS (Aw K cs) (Aa 0) (Aa 1))) (Aa 0)) AR)) (AM (t1 (El (Jl K cs) (AS (Aw K cs) (Aa 0) (AS (Ay K cs) (Aa 0) (Aa 1))) (Aa 0)) AR))) (AE (eC (.bl false)) []) Ar)
 (Ao (BR (Cb (AM (t1 (El (Jl K cs) (AS (Ay K cs) (AS (Ay K cs) (Aa 0) (Aa 1)) (Aa 2)) (AS (Ay K cs) (Aa 0) (AS (Ay K cs) (Aa 1) (Aa 2)))) AR)) (AM (t1 (El (Jl K cs) (AS (Aw K cs) (AS (Aw K cs) (Aa 0) (Aa 1)) (Aa 2)) (AS (Aw K cs) (Aa 0) (AS (Aw K cs) (Aa 1) (Aa 2)))) AR))) (AE (eC (.bl false)) []) Ar)
 (Ao (BR (AM (t1 (El (Jl K cs) (AS (Aw K cs) (Aa 0) (AS (Ay K cs) (Aa 1) (Aa 2))) (AS (Ay K cs) (AS (Aw K cs) (Aa 0) (Aa 1)) (AS (Aw K cs) (Aa 0) (Aa 2)))) AR)) (AE (eC (.bl false)) []) Ar)
 (AE (El (Jl K cs) (AS (Ay K cs) (Aa 0) (AS (Aw K cs) (Aa 1) (Aa 2))) (AS (Aw K cs) (AS (Ay K cs) (Aa 0) (Aa 1)) (AS (Ay K cs) (Aa 0) (Aa 2)))) []))))))
noncomputable def Eo(K:PySem.W.Frag)(cs:Cs):List Dt→Out Dt:=Ct 3 (AB 3 (FG K cs))
noncomputable def K5(K:PySem.W.Frag)(cs:Cs):FD.Env→SOut:=
 (AE (eB Kh (Ab (eL (EA (Ai 2) [2] AI (eB Kx (Ab (eL (EA (FC (AY (Ai 3) (AY (Ai 4) Fc))) [3,4] AI (GZ (Ab (Aa 3) (Ab (e2 (Aa 4) (Aa 1) AV) Ag))) (AD (Aa 2)) [2])) Ag)) (AD (Aa 0)) [0])) Ag)) [0,2,3,4,1,3,4,2])
noncomputable def HA(K:PySem.W.Frag)(cs:Cs):List Dt→Out Dt:=Ct 2 (AB 5 (K5 K cs))
noncomputable def Ho(K:PySem.W.Frag)(cs:Cs):FD.Env→SOut:=
 (Ao (B2 2 (GZ (Ab (dJ Ag) Ag)) [])
 (Ao (AW (FC (AY (Ai 3) (AY (Ai 4) Fc))) (AD (Aa 0)) [0]
 (B2 2 (Aj (F8 K cs) (Ab (Aa 2) (Ab (Aj (HA K cs) (Ab (e2 (Aa 1) (Aa 3) Au) (Ab (Aa 4) Ag))) Ag))) [2,1,3,4]))
 (AE (Aa 2) [2])))
noncomputable def EE(K:PySem.W.Frag)(cs:Cs):List Dt→Out Dt:=Ct 2 (AB 5 (Ho K cs))
noncomputable def Mg(K:PySem.W.Frag)(cs:Cs):FD.Env→SOut:=
 (Ao (B2 2 (GZ Ag) [])
 (Ao (AW (Ai 3) (AD (Aa 0)) [0]
 (B2 2 (Aj (ER K cs) (Ab (Aa 2) (Ab (Aj (EE K cs) (Ab (Aa 3) (Ab (Aa 1) Ag))) Ag))) [2,3,1]))
 (AE (Aa 2) [2])))
noncomputable def J8(K:PySem.W.Frag)(cs:Cs):List Dt→Out Dt:=Ct 2 (AB 4 (Mg K cs))
noncomputable def Jt(K:PySem.W.Frag)(cs:Cs):FD.Env→SOut:=
 (Ao (Eb 2)
 (Ao (DU 0 (Ai 3)
 (A8 2 (Aa 3) (Aj (J8 K cs) (Ab (e2 (Aa 0) (Aa 3) Au) (Ab (Aa 1) Ag))) [0,3,1]))
 (AE (Aa 2) [2])))
noncomputable def Jr(K:PySem.W.Frag)(cs:Cs):List Dt→Out Dt:=Ct 2 (AB 4 (Jt K cs))
noncomputable def Gy(K:PySem.W.Frag)(cs:Cs):FD.Env→SOut:=
 (Ao (JK (Aj (D6 K cs) (Ab (Aa 0) (Ab (Aa 1) Ag))))
 (AE (Aj (FZ K cs) (Ab (Aj (Jr K cs) (Ab (e1 (Aa 0) (DX (AF cs) "_forms")) (Ab (e1 (Aa 1) (DX (AF cs) "_forms")) Ag))) Ag)) [0,1]))
noncomputable def ES(K:PySem.W.Frag)(cs:Cs):List Dt→Out Dt:=Ct 2 (AB 2 (Gy K cs))
noncomputable abbrev BK(K:PySem.W.Frag)(cs:Cs):Ly:=[(cs.c_Map,ES K cs)]
noncomputable def DO(K:PySem.W.Frag)(cs:Cs):FD.Env→SOut:=
 (Ao (BR (AM (t1 (El (Jl K cs) (AS (BK K cs) (AS (Ay K cs) (Aa 0) (Aa 1)) (Aa 2)) (AS (Ay K cs) (AS (BK K cs) (Aa 0) (Aa 2)) (AS (BK K cs) (Aa 1) (Aa 2)))) AR)) (AE (eC (.bl false)) []) Ar)
 (AE (El (Jl K cs) (AS (BK K cs) (AS (Aw K cs) (Aa 0) (Aa 1)) (Aa 2)) (AS (Aw K cs) (AS (BK K cs) (Aa 0) (Aa 2)) (AS (BK K cs) (Aa 1) (Aa 2)))) []))
noncomputable def CK(K:PySem.W.Frag)(cs:Cs):List Dt→Out Dt:=Ct 3 (AB 3 (DO K cs))
noncomputable def Xj(K:PySem.W.Frag)(cs:Cs):FD.Env→SOut:=
 (Ao (BO 1 (Az 14 (BL K cs) (xP (Ab (Aa 0) (Ab (eC (.int 0)) Ag))) [0]) [])
 (Ao (BO 2 (xT (WU (Az 14 (Ap K cs) (xP (Ab (Aa 1) (Ab (eC (.int 8)) Ag))) [1]) (xP (eC (.int 7))) Lz)) [])
 (Ao (BO 3 (x2 (xP (eL (Fx (Ab (eC (.int 3)) (Ab (eC (.int 2)) (Ab (eC (.int 4)) Ag)))))) (Az 14 (Ap K cs) (xP (Ab (Aa 1) (Ab (eC (.int 3)) Ag))) [1]) Bl) [])
 (Ao (BR (t1 (Aa 2) AR) (BO 3 (x2 (xP (eC (.int 9))) (Az 14 (Ap K cs) (xP (Ab (Aa 1) (Ab (eC (.int 12)) Ag))) [1]) AV) []) Ar)
 (Ao (BO 4 (Az 14 (F3 K cs) (xP (Ab (Aa 1) (Ab (Aa 3) Ag))) [1,3]) [])
 (Ao (BO 5 (Az 14 (BL K cs) (xP (Ab (Aa 0) (Ab (eC (.int 1)) Ag))) [0]) [])
 (Ao (BO 6 (Az 14 (E3 K cs) (xP (Ab (Aa 5) Ag)) [5]) [])
 (Ao (BO 7 (x2 (xP (eL (Fx (Ab (eC (.int 0)) (Ab (eC (.int 0)) (Ab (eC (.int 1)) (Ab (eC (.int 2)) Ag))))))) (Az 14 (Ap K cs) (xP (Ab (Aa 5) (Ab (eC (.int 4)) Ag))) [5]) Bl) [])
 (Ao (BR (t1 (Aa 2) AR) (B2 7 (eC (.int 1)) []) Ar)
 (Ao (Hh 8 (EA (Ai 9) [9] AI (Aj (Dz K cs) (Ab (Aa 0) (Ab (e2 (eC (.int 2)) (e2 (Aa 9) (Aa 3) (gI Wy (· * ·))) AV) (Ab (Aa 4) (Ab (Aa 6) (Ab (Aa 7) Ag)))))) (Dr (Ab (eC (.int 3)) Ag)) []) [0,4,6,7,9])
 (Ao (BO 10 (Az 14 (BL K cs) (xP (Ab (Aa 0) (Ab (eC (.int 62)) Ag))) [0]) [])
 (Ao (OH (WU (Az 14 (Ap K cs) (xP (Ab (Aa 10) (Ab (eC (.int 2)) Ag))) [10]) (xP (eC (.int 1))) Lz) (Jx 8 (eC (.int 1)) (Az 14 (DD K cs) (xP (Ab (Aa 10) (Ab (e2 (Aa 8) (eC (.int 0)) Bl) Ag))) [10]) []) Ar)
 (Ao (B2 11 (Aj (newD cs.c_Map (Be K cs)) (Ab (Aj (C9 K cs) (Ab (e2 (Aa 8) (eC (.int 0)) Bl) Ag)) Ag)) [])
 (Ao (B2 12 (Aj (newD cs.c_Map (Be K cs)) (Ab (Aj (C9 K cs) (Ab (e2 (Aa 8) (eC (.int 1)) Bl) Ag)) Ag)) [])
 (Ao (B2 13 (Aj (newD cs.c_Map (Be K cs)) (Ab (Aj (C9 K cs) (Ab (e2 (Aa 8) (eC (.int 2)) Bl) Ag)) Ag)) [])
 (Ao (OH (Uu (jR (Az 14 (DQ K cs) (xP (Ab (Aa 11) (Ab (Aa 12) (Ab (e2 (Aa 8) (eC (.int 0)) Bl) (Ab (e2 (Aa 8) (eC (.int 1)) Bl) (Ab (Aa 10) (Ab (Aa 4) Ag))))))) [11,12,10,4]) AR)) (AE (eC (.bl false)) []) Ar)
 (Ao (BR (Cb (AM (t1 (Aj (Eo K cs) (Ab (Aa 11) (Ab (Aa 12) (Ab (Aa 13) Ag)))) AR)) (AM (t1 (Aj (CK K cs) (Ab (Aa 11) (Ab (Aa 12) (Ab (Aa 13) Ag)))) AR))) (AE (eC (.bl false)) []) Ar)
 (Ao (BR (Cb (t2 (BM (CW K cs) "is_below" (Aa 11) (Ab (AS (Ay K cs) (Aa 11) (Aa 12)) Ag)) (eC (.bl true)) UO) (t2 (BM (CW K cs) "is_below" (AS (Aw K cs) (Aa 11) (Aa 12)) (Ab (Aa 11) Ag)) (eC (.bl true)) UO)) (AE (eC (.bl false)) []) Ar)
 (Ao (BR (Cb (AM (t1 (Aj (CN K cs) (Ab (Aa 11) (Ab (Aa 12) (Ab (e2 (Aa 8) (eC (.int 0)) Bl) (Ab (e2 (Aa 8) (eC (.int 1)) Bl) (Ab (Aa 4) Ag)))))) AR)) (AM (t1 (Aj (CN K cs) (Ab (Aa 12) (Ab (Aa 11) (Ab (e2 (Aa 8) (eC (.int 1)) Bl) (Ab (e2 (Aa 8) (eC (.int 0)) Bl) (Ab (Aa 4) Ag)))))) AR))) (AE (eC (.bl false)) []) Ar)
 (Ao (BR (AM (t1 (Aj (CN K cs) (Ab (Aa 11) (Ab (Aa 13) (Ab (e2 (Aa 8) (eC (.int 0)) Bl) (Ab (e2 (Aa 8) (eC (.int 2)) Bl) (Ab (Aa 4) Ag)))))) AR)) (AE (eC (.bl false)) []) Ar)
 (AE (OJ (Aj (BG K cs) (Ab (Aa 11) (Ab (e2 (Aa 8) (eC (.int 0)) Bl) Ag))) (OJ (Aj (BG K cs) (Ab (Aa 12) (Ab (e2 (Aa 8) (eC (.int 1)) Bl) Ag))) (Aj (BG K cs) (Ab (Aa 13) (Ab (e2 (Aa 8) (eC (.int 2)) Bl) Ag))))) [13])))))))))))))))))))))
section
variable {P:Program} {w:World} {K:PySem.W.Frag} {mg:Str→Option Value} {base:Heap} {cs:Cs}
theorem Q6{X:Cx}(T:Tx X.prog X.w X.K X.mg X.base cs):∃ u,X.mg "MOST_ROWS" = some u∧RelV (.int 200) u:=T.v_MOST_ROWS
theorem Br{X:Cx}(T:Tx X.prog X.w X.K X.mg X.base cs):∀ q∈AF cs,FldC X.K q "_forms":=fun q hq=>by
 obtain rfl:=List.mem_singleton.mp hq
 exact ⟨T.cl_Map,T.no_Map__forms⟩
theorem dq{X:Cx}(T:Tx X.prog X.w X.K X.mg X.base cs):IsoC X.K cs.c_Map (WG cs):=⟨fun q hq=>by
 obtain rfl:=List.mem_singleton.mp hq
 exact ⟨T.in_Map,T.ki_Map_Map⟩,T.oi_Map⟩
end
section
variable {P:Program} {w:World} {K:PySem.W.Frag} {mg:Str→Option Value} {base:Heap} {cs:Cs}
theorem Zh:FnScope ["entries"] ["entries"] (defScope E1):=⟨rfl,rfl,rfl,by decide +kernel,rfl,by decide +kernel,by decide +kernel⟩
theorem Yu(T:Tx P w K mg base cs){a:Addr}{fd:FuncData}(F:FunD K "row_of" "row_of" (defArgs E1) (defBody E1) (defScope E1) [] [] a fd):FnOk P w K mg base (L2N.CX P w) 1 a fd ["entries"] (DA K 1 (AB 1 (ME K cs))):=
 AL F Zh (fun cdv A outer s H E hr=>
  (An (AH (P8 (by rfl) T.n_tuple (Ae (CH (Zv hr (by rfl) (Ac 0) (by rfl) T.n_sorted)) Af)))))
theorem RV(T:Tx P w K mg base cs):ClR P w K mg base "row_of" 1 (HU K cs):=by
 obtain ⟨a,fd,F,hm⟩:=T.F_row_of
 exact B7 (Yu T F) hm F.kp (AG F (fun kV doc pm an cdv ct us hl=>match us,hl with | [_],_=>rfl))
theorem ND:FnScope ["row","limits","name","number"] ["row","limits"] (defScope EN):=⟨rfl,rfl,rfl,by decide +kernel,rfl,by decide +kernel,by decide +kernel⟩
theorem Zs(T:Tx P w K mg base cs){a:Addr}{fd:FuncData}(F:FunD K "within" "within" (defArgs EN) (defBody EN) (defScope EN) [] [] a fd):FnOk P w K mg base (L2N.CX P w) 1 a fd ["row","limits"] (DA K 2 (AB 4 (MR K cs))):=
 AL F ND (fun cdv A outer s H E hr=>
  (Ak (CD (passes_of (by rfl)) (by rfl) (AK (Ac 0)) (N6 (by rfl) (Dv (Ax 2 ND.nd) (Dv (Ax 3 ND.nd) KO)) (BN (BN GS)))
  (An (CQ (Q5 (Di (Gv hr (Ac 2) (Ac 1)) (CF (F9 N5 (Ac 3) (A4 hr (Ac 1) (Ac 2)))))) (An (AH Cu)) Bg)))
  (An (AH Cu))))
theorem Zl(T:Tx P w K mg base cs):ClR P w K mg base "within" 1 (FU K cs):=by
 obtain ⟨a,fd,F,hm⟩:=T.F_within
 exact B7 (Zs T F) hm F.kp (AG F (fun kV doc pm an cdv ct us hl=>match us,hl with | [_,_],_=>rfl))
theorem Jk:FnScope ["rows","row","limits","other"] ["rows","row"] (defScope CY):=⟨rfl,rfl,rfl,by decide +kernel,rfl,by decide +kernel,by decide +kernel⟩
theorem TF(T:Tx P w K mg base cs){a:Addr}{fd:FuncData}(F:FunD K "has_below" "has_below" (defArgs CY) (defBody CY) (defScope CY) [] [] a fd):FnOk P w K mg base (L2N.CX P w) 2 a fd ["rows","row"] (DA K 2 (AB 4 (Fw K cs))):=
 AL F Jk (fun cdv A outer s H E hr=>
  (Ak (Cy 2 Jk.nd (UZ (by rfl) (by rfl) T.n_dict (Ae (Ac 1) Af)))
  (Ak (CD (passes_of (by rfl)) (by rfl) (AK (Ac 0)) (Ax 3 Jk.nd)
  (An (CQ (Ga (Aq (Zl T) (L2N.takes_of (by rfl) (by rfl) (by rfl) (by rfl)) hr (by decide) (by rfl) (Ae (Ac 3) (Ae (Ac 2) Af)))) (An (AH Cu)) Bg)))
  (An (AH Cu)))))
theorem MG(T:Tx P w K mg base cs):ClR P w K mg base "has_below" 2 (Bp K cs):=by
 obtain ⟨a,fd,F,hm⟩:=T.F_has_below
 exact B7 (TF T F) hm F.kp (AG F (fun kV doc pm an cdv ct us hl=>match us,hl with | [_,_],_=>rfl))
theorem DV:FnScope ["rows","ranked","row","name","number","kept","size","total"] ["rows"] (defScope Ew):=⟨rfl,rfl,rfl,by decide +kernel,rfl,by decide +kernel,by decide +kernel⟩
theorem YI(T:Tx P w K mg base cs){a:Addr}{fd:FuncData}(F:FunD K "lowest" "lowest" (defArgs Ew) (defBody Ew) (defScope Ew) [] [] a fd):FnOk P w K mg base (L2N.CX P w) 3 a fd ["rows"] (DA K 1 (AB 8 (Mf K cs))):=
 AL F DV (fun cdv A outer s H E hr=>
  (Ak (Cy 1 DV.nd (CH (G2 hr (by rfl) T.n_sorted (Ae (CH (Hg [("row",2)] (by rfl) DV.nd (AK (Ac 0)) (fun s2 H2 C2 cl2 fp2=>(Ax 2 DV.nd)) (fun s2 H2 C2 cl2 fp2=>CL) (fun s2 H2 C2 cl2 fp2=>(F5 (Ae (FO (by rfl) T.n_len (Ae (Ac 2) Af)) (Ae (bH (by rfl) (by rfl) T.n_sum (Ae (CH (Hg [("name",3),("number",4)] (by rfl) DV.nd (AK (Ac 2)) (fun s2 H2 C2 cl2 fp2=>(N6 (by rfl) (Dv (Ax 3 DV.nd) (Dv (Ax 4 DV.nd) KO)) (BN (BN GS)))) (fun s2 H2 C2 cl2 fp2=>CL) (fun s2 H2 C2 cl2 fp2=>(Ac 4)) (ok:=by exact Gk ["rows","ranked","row","name","number","kept","size","total"] rfl (by decide +kernel)))) Af)) (Ae (Ac 2) Af))))) (ok:=by exact blkOk_by (N:=["rows","ranked","row","name","number","kept","size","total"]) (sc:=defScope Ew) (by decide +kernel)))) Af))))
  (Ak (Qe 5 DV.nd (FN Af))
  (Ak (CD (passes_of (by rfl)) (by rfl) (AK (Ac 1)) (N6 (by rfl) (Dv (Ax 6 DV.nd) (Dv (Ax 7 DV.nd) (Dv (Ax 2 DV.nd) KO))) (BN (BN (BN GS))))
  (An (CQ (Ba (Ga (Aq (MG T) (L2N.takes_of (by rfl) (by rfl) (by rfl) (by rfl)) hr (by decide) (by rfl) (Ae (Ac 5) (Ae (Ac 2) Af))))) (An (MD 5 (Ac 2))) Bg)))
  (An (AH (O3 (by rfl) T.n_tuple (Ae (CH (G2 hr (by rfl) T.n_sorted (Ae (Ac 5) Af))) Af))))))))
theorem NH(T:Tx P w K mg base cs):ClR P w K mg base "lowest" 3 (IT K cs):=by
 obtain ⟨a,fd,F,hm⟩:=T.F_lowest
 exact B7 (YI T F) hm F.kp (AG F (fun kV doc pm an cdv ct us hl=>match us,hl with | [_],_=>rfl))
theorem N2:FnScope ["rows","row"] ["rows"] (defScope En):=⟨rfl,rfl,rfl,by decide +kernel,rfl,by decide +kernel,by decide +kernel⟩
theorem Yv(T:Tx P w K mg base cs){a:Addr}{fd:FuncData}(F:FunD K "normal" "normal" (defArgs En) (defBody En) (defScope En) [] [] a fd):FnOk P w K mg base (L2N.CX P w) 4 a fd ["rows"] (DA K 1 (AB 2 (L4 K cs))):=
 AL F N2 (fun cdv A outer s H E hr=>
  (An (AH (Aq (NH T) (L2N.takes_of (by rfl) (by rfl) (by rfl) (by rfl)) hr (by decide) (by rfl) (Ae (CH (Hg [("row",1)] (by rfl) N2.nd (AK (Ac 0)) (fun s2 H2 C2 cl2 fp2=>(Ax 1 N2.nd)) (fun s2 H2 C2 cl2 fp2=>CL) (fun s2 H2 C2 cl2 fp2=>(Aq (RV T) FD.takes0 hr (by decide) (by rfl) (Ae (Ac 1) Af))) (ok:=by exact blkOk_by (N:=["rows","row"]) (sc:=defScope En) (by decide +kernel)))) Af)))))
theorem YK(T:Tx P w K mg base cs):ClR P w K mg base "normal" 4 (KN K cs):=by
 obtain ⟨a,fd,F,hm⟩:=T.F_normal
 exact B7 (Yv T F) hm F.kp (AG F (fun kV doc pm an cdv ct us hl=>match us,hl with | [_],_=>rfl))
theorem M8:FnScope ["rows","row"] ["rows"] (defScope C7):=⟨rfl,rfl,rfl,by decide +kernel,rfl,by decide +kernel,by decide +kernel⟩
theorem Td(T:Tx P w K mg base cs){a:Addr}{fd:FuncData}(F:FunD K "need_rows" "need_rows" (defArgs C7) (defBody C7) (defScope C7) [] [] a fd):FnOk P w K mg base (L2N.CX P w) 1 a fd ["rows"] (DA K 1 (AB 2 (HZ K cs))):=
 AL F M8 (fun cdv A outer s H E hr=>
  (Ak (CQ (F9 (IS (Sk hr)) (FO (by rfl) T.n_len (Ae (Ac 0) Af)) Am) (An Ir) Bg)
  (An (CD (passes_of (by rfl)) (by rfl) (AK (Ac 0)) (Ax 1 M8.nd)
  (An (CQ (F9 (IS (Sk hr)) (Tu (by rfl) T.n_len (Ae (Ac 1) Af)) Am) (An Ir) Bg))))))
theorem Tj(T:Tx P w K mg base cs):ClR P w K mg base "need_rows" 1 (GU K cs):=by
 obtain ⟨a,fd,F,hm⟩:=T.F_need_rows
 exact B7 (Td T F) hm F.kp (AG F (fun kV doc pm an cdv ct us hl=>match us,hl with | [_],_=>rfl))
theorem Uz:FnScope ["form"] ["form"] (defScope DF):=⟨rfl,rfl,rfl,by decide +kernel,rfl,by decide +kernel,by decide +kernel⟩
theorem Vn(T:Tx P w K mg base cs){a:Addr}{fd:FuncData}(F:FunD K "need_few" "need_few" (defArgs DF) (defBody DF) (defScope DF) [] [] a fd):FnOk P w K mg base (L2N.CX P w) 1 a fd ["form"] (DA K 1 (AB 1 (Jp K cs))):=
 AL F Uz (fun cdv A outer s H E hr=>
  (An (CQ (F9 N5 (FO (by rfl) T.n_len (Ae (Ac 0) Af)) (XY (v:=.int 200) (d:=.int 200) (by rfl) (Q6 T) (fun _ _ _=>rfl))) (An Ir) Bg)))
theorem N9(T:Tx P w K mg base cs):ClR P w K mg base "need_few" 1 (Ff K cs):=by
 obtain ⟨a,fd,F,hm⟩:=T.F_need_few
 exact B7 (Vn T F) hm F.kp (AG F (fun kV doc pm an cdv ct us hl=>match us,hl with | [_],_=>rfl))
theorem E9:FnScope ["rows","known","row","name","kept"] ["rows","known"] (defScope BC):=⟨rfl,rfl,rfl,by decide +kernel,rfl,by decide +kernel,by decide +kernel⟩
theorem OP(T:Tx P w K mg base cs){a:Addr}{fd:FuncData}(F:FunD K "checked_form" "checked_form" (defArgs BC) (defBody BC) (defScope BC) [] [] a fd):FnOk P w K mg base (L2N.CX P w) 5 a fd ["rows","known"] (DA K 2 (AB 5 (FP K cs))):=
 AL F E9 (fun cdv A outer s H E hr=>
  (Ak (LJ (Aq (Tj T) (L2N.takes_of (by rfl) (by rfl) (by rfl) (by rfl)) hr (by decide) (by rfl) (Ae (Ac 0) Af)))
  (Ak (CD (passes_of (by rfl)) (by rfl) (AK (Ac 0)) (Ax 2 E9.nd)
  (An (CD (passes_of (by rfl)) (by rfl) (AK (CH (G2 hr (by rfl) T.n_sorted (Ae (CH (HW (by rfl) (by rfl) T.n_list (Ae (Ac 2) Af))) Af)))) (Ax 3 E9.nd)
  (An (CQ (Gv hr (Ac 3) (Ac 1)) (An Ir) Bg)))))
  (Ak (Cy 4 E9.nd (Aq (YK T) (L2N.takes_of (by rfl) (by rfl) (by rfl) (by rfl)) hr (by decide) (by rfl) (Ae (Ac 0) Af)))
  (Ak (LJ (Aq (N9 T) (L2N.takes_of (by rfl) (by rfl) (by rfl) (by rfl)) hr (by decide) (by rfl) (Ae (Ac 4) Af)))
  (An (AH (Ac 4))))))))
theorem OA(T:Tx P w K mg base cs):ClR P w K mg base "checked_form" 5 (DT K cs):=by
 obtain ⟨a,fd,F,hm⟩:=T.F_checked_form
 exact B7 (OP T F) hm F.kp (AG F (fun kV doc pm an cdv ct us hl=>match us,hl with | [_,_],_=>rfl))
theorem He:FnScope ["self","rules","forms","name","#"] ["self","rules"] (defScope By):=⟨rfl,rfl,rfl,by decide +kernel,rfl,by decide +kernel,by decide +kernel⟩
theorem Oy(T:Tx P w K mg base cs){a:Addr}{fd:FuncData}(F:FunD K "__init__" "Map.__init__" (defArgs By) (defBody By) (defScope By) [] [] a fd):FnOk P w K mg base (L2N.CX P w) 6 a fd ["self","rules"] (NJ K 2 (runM 4 (Ez K cs))):=
 GO F He rfl (by decide) (fun cdv A outer s H E hr=>
  (Ak (CQ (F9 (IS (Sk hr)) (Tu (by rfl) T.n_len (Ae (Ac 1) Af)) Am) (An Ir) Bg)
  (Ak (Et 2 He.nd)
  (Ak (CD (passes_of (by rfl)) (by rfl) (AK (CH (G2 hr (by rfl) T.n_sorted (Ae (CH (HW (by rfl) (by rfl) T.n_list (Ae (Ac 1) Af))) Af)))) (Ax 3 He.nd)
  (An (Ei hr 2 (Aq (OA T) (L2N.takes_of (by rfl) (by rfl) (by rfl) (by rfl)) hr (by decide) (by rfl) (Ae (A4 hr (Ac 1) (Ac 3)) (Ae (Ac 1) Af))) (Ac 3))))
  (An (iz (S:=[4]) 4 (Br T) (I7 (Ac 2)) (Ac 0)))))))
theorem Ot(T:Tx P w K mg base cs):∃ a,Mk K cs.c_Map a∧FnR P w K mg base (L2N.CX P w) 6 a (gP K (Be K cs)):=by
 obtain ⟨a,fd,F,hm⟩:=T.F_Map___init__
 exact ⟨a,hm,g8 (Oy T F) (A5 F (fun kV doc pm an cdv ct us hl=>match us,hl with | [_,_],_=>rfl))⟩
theorem OZ{X:Cx}{cs:Cs}(T:Tx X.prog X.w X.K X.mg X.base cs):ClC X.prog X.w X.K X.mg X.base "Map" 6 cs.c_Map (Be X.K cs):=⟨T.g_Map,Ot T⟩
theorem Le:FnScope ["row","other","entries","name","number"] ["row","other"] (defScope EX):=⟨rfl,rfl,rfl,by decide +kernel,rfl,by decide +kernel,by decide +kernel⟩
theorem YU(T:Tx P w K mg base cs){a:Addr}{fd:FuncData}(F:FunD K "merged" "merged" (defArgs EX) (defBody EX) (defScope EX) [] [] a fd):FnOk P w K mg base (L2N.CX P w) 2 a fd ["row","other"] (DA K 2 (AB 5 (L8 K cs))):=
 AL F Le (fun cdv A outer s H E hr=>
  (Ak (bh 2 (by rfl) (by rfl) T.n_dict (Ae (Ac 0) Af) Le.nd)
  (Ak (CD (passes_of (by rfl)) (by rfl) (AK (Ac 1)) (N6 (by rfl) (Dv (Ax 3 Le.nd) (Dv (Ax 4 Le.nd) KO)) (BN (BN GS)))
  (An (CQ (Q5 (Di (Gv hr (Ac 3) (Ac 2)) (CF (F9 N5 (Ac 4) (A4 hr (Ac 2) (Ac 3)))))) (An (Ei hr 2 (Ac 4) (Ac 3))) Bg)))
  (An (AH (Aq (RV T) (L2N.takes_of (by rfl) (by rfl) (by rfl) (by rfl)) hr (by decide) (by rfl) (Ae (Ac 2) Af)))))))
theorem Y8(T:Tx P w K mg base cs):ClR P w K mg base "merged" 2 (Ky K cs):=by
 obtain ⟨a,fd,F,hm⟩:=T.F_merged
 exact B7 (YU T F) hm F.kp (AG F (fun kV doc pm an cdv ct us hl=>match us,hl with | [_,_],_=>rfl))
theorem KY:FnScope ["form","other","row","second"] ["form","other"] (defScope Es):=⟨rfl,rfl,rfl,by decide +kernel,rfl,by decide +kernel,by decide +kernel⟩
theorem Zw(T:Tx P w K mg base cs){a:Addr}{fd:FuncData}(F:FunD K "joined" "joined" (defArgs Es) (defBody Es) (defScope Es) [] [] a fd):FnOk P w K mg base (L2N.CX P w) 4 a fd ["form","other"] (DA K 2 (AB 4 (Ms K cs))):=
 AL F KY (fun cdv A outer s H E hr=>
  (An (AH (Aq (NH T) (L2N.takes_of (by rfl) (by rfl) (by rfl) (by rfl)) hr (by decide) (by rfl) (Ae (CH (jB [("row",2),("second",3)] [3] (by rfl) KY.nd (AK (Ac 0)) (fun s2 H2 C2 cl2 fp2=>(Ax 2 KY.nd)) (fun s2 H2 C2 cl2 fp2=>CL) (fun s2 H2 C2 cl2 fp2=>(dG (Ac 1))) (fun s2 H2 C2 cl2 fp2=>(Ax 3 KY.nd)) (fun s2 H2 C2 cl2 fp2=>CL) (fun s2 H2 C2 cl2 fp2=>(Aq (Y8 T) FD.takes0 hr (by decide) (by rfl) (Ae (Ac 2) (Ae (Ac 3) Af)))) (ok:=by exact blkOk_by (N:=["form","other","row","second"]) (sc:=defScope Es) (by decide +kernel)))) Af)))))
theorem R6(T:Tx P w K mg base cs):ClR P w K mg base "joined" 4 (F8 K cs):=by
 obtain ⟨a,fd,F,hm⟩:=T.F_joined
 exact B7 (Zw T F) hm F.kp (AG F (fun kV doc pm an cdv ct us hl=>match us,hl with | [_,_],_=>rfl))
theorem Ja:FnScope ["forms","rules","name","row"] ["forms"] (defScope Ex):=⟨rfl,rfl,rfl,by decide +kernel,rfl,by decide +kernel,by decide +kernel⟩
theorem Yy(T:Tx P w K mg base cs){a:Addr}{fd:FuncData}(F:FunD K "map_of" "map_of" (defArgs Ex) (defBody Ex) (defScope Ex) [] [] a fd):FnOk P w K mg base (L2N.CX P w) 8 a fd ["forms"] (DA K 1 (AB 4 (Mi K cs))):=
 AL F Ja (fun cdv A outer s H E hr=>
  (Ak (Et 1 Ja.nd)
  (Ak (CD (passes_of (by rfl)) (by rfl) (AK (CH (G2 hr (by rfl) T.n_sorted (Ae (CH (HW (by rfl) (by rfl) T.n_list (Ae (Ac 0) Af))) Af)))) (Ax 2 Ja.nd)
  (Ak (LJ (Aq (N9 T) (L2N.takes_of (by rfl) (by rfl) (by rfl) (by rfl)) hr (by decide) (by rfl) (Ae (A4 hr (Ac 0) (Ac 2)) Af)))
  (An (Ei hr 1 (CH (Hg [("row",3)] (by rfl) Ja.nd (AK (A4 hr (Ac 0) (Ac 2))) (fun s2 H2 C2 cl2 fp2=>(Ax 3 Ja.nd)) (fun s2 H2 C2 cl2 fp2=>CL) (fun s2 H2 C2 cl2 fp2=>(UZ (by rfl) (by rfl) T.n_dict (Ae (Ac 3) Af))) (ok:=by exact blkOk_by (N:=["forms","rules","name","row"]) (sc:=defScope Ex) (by decide +kernel)))) (Ac 2)))))
  (An (AH (Ts (OZ T) (L2N.takes_of (by rfl) (by rfl) (by rfl) (by rfl)) hr (by decide) (by rfl) (Ae (Ac 1) Af)))))))
theorem NP(T:Tx P w K mg base cs):ClR P w K mg base "map_of" 8 (FZ K cs):=by
 obtain ⟨a,fd,F,hm⟩:=T.F_map_of
 exact B7 (Yy T F) hm F.kp (AG F (fun kV doc pm an cdv ct us hl=>match us,hl with | [_],_=>rfl))
theorem S6:FnScope ["self"] ["self"] (defScope CZ):=⟨rfl,rfl,rfl,by decide +kernel,rfl,by decide +kernel,by decide +kernel⟩
theorem T2(T:Tx P w K mg base cs){a:Addr}{fd:FuncData}(F:FunD K "names" "Map.names" (defArgs CZ) (defBody CZ) (defScope CZ) [] [] a fd):FnOk P w K mg base (L2N.CX P w) 1 a fd ["self"] (DA K 1 (AB 1 (Ih K cs))):=
 AL F S6 (fun cdv A outer s H E hr=>
  (An (AH (O3 (by rfl) T.n_tuple (Ae (CH (HW (by rfl) (by rfl) T.n_list (Ae (EH (Br T) (Ac 0)) Af))) Af)))))
theorem Tr(T:Tx P w K mg base cs):∃ a,Meth K cs.c_Map "names" a∧FnR P w K mg base (L2N.CX P w) 1 a (OI K (Ft K cs)):=by
 obtain ⟨a,fd,F,hm⟩:=T.F_Map_names
 exact ⟨a,hm,IC (T2 T F) (A5 F (fun kV doc pm an cdv ct us hl=>match us,hl with | [_],_=>rfl))⟩
theorem S3{X:Cx}{cs:Cs}(T:Tx X.prog X.w X.K X.mg X.base cs):MeC X.prog X.w X.K X.mg X.base 1 cs.c_Map "names" (Ft X.K cs):=⟨T.cl_Map,Tr T⟩
theorem Fj{X:Cx}{cs:Cs}(T:Tx X.prog X.w X.K X.mg X.base cs):∀ q∈Bk X.K cs,MeC X.prog X.w X.K X.mg X.base 1 q.1 "names" q.2:=fun q hq=>by
 obtain rfl:=List.mem_singleton.mp hq
 exact S3 T
theorem Ln:FnScope ["self","name"] ["self","name"] (defScope A7):=⟨rfl,rfl,rfl,by decide +kernel,rfl,by decide +kernel,by decide +kernel⟩
theorem Ls(T:Tx P w K mg base cs){a:Addr}{fd:FuncData}(F:FunD K "__contains__" "Map.__contains__" (defArgs A7) (defBody A7) (defScope A7) [] [] a fd):FnOk P w K mg base (L2N.CX P w) 1 a fd ["self","name"] (DA K 2 (AB 2 (D2 K cs))):=
 AL F Ln (fun cdv A outer s H E hr=>
  (An (AH (iE hr (Ac 1) (EH (Br T) (Ac 0))))))
theorem Li(T:Tx P w K mg base cs):∃ a,Meth K cs.c_Map "__contains__" a∧FnR P w K mg base (L2N.CX P w) 1 a (OI K (B9 K cs)):=by
 obtain ⟨a,fd,F,hm⟩:=T.F_Map___contains__
 exact ⟨a,hm,IC (Ls T F) (A5 F (fun kV doc pm an cdv ct us hl=>match us,hl with | [_,_],_=>rfl))⟩
theorem Lj{X:Cx}{cs:Cs}(T:Tx X.prog X.w X.K X.mg X.base cs):MeC X.prog X.w X.K X.mg X.base 1 cs.c_Map "__contains__" (B9 X.K cs):=⟨T.cl_Map,Li T⟩
theorem Gn{X:Cx}{cs:Cs}(T:Tx X.prog X.w X.K X.mg X.base cs):∀ q∈Bb X.K cs,MeC X.prog X.w X.K X.mg X.base 1 q.1 "__contains__" q.2:=fun q hq=>by
 obtain rfl:=List.mem_singleton.mp hq
 exact Lj T
theorem Ef:FnScope ["some","other","lone","name"] ["some","other"] (defScope BI):=⟨rfl,rfl,rfl,by decide +kernel,rfl,by decide +kernel,by decide +kernel⟩
theorem RF(T:Tx P w K mg base cs){a:Addr}{fd:FuncData}(F:FunD K "need_alike" "need_alike" (defArgs BI) (defBody BI) (defScope BI) [] [] a fd):FnOk P w K mg base (L2N.CX P w) 2 a fd ["some","other"] (DA K 2 (AB 4 (Hn K cs))):=
 AL F Ef (fun cdv A outer s H E hr=>
  (Ak (Tt 2 [("name",3)] (by rfl) Ef.nd (AK (G3 (Fj T) (L2N.takes_of (by rfl) (by rfl) (by rfl) (by rfl)) hr (by decide) (Ac 0))) (fun s2 H2 C2 cl2 fp2=>(Ax 3 Ef.nd)) (fun s2 H2 C2 cl2 fp2=>(bc (Wc (Gn T) hr (by decide) (Ac 3) (Ac 1) true rfl (by with_unfolding_all rfl)))) (fun s2 H2 C2 cl2 fp2=>(Ac 3)) (ok:=by exact blkOk_by (N:=["some","other","lone","name"]) (sc:=defScope BI) (by decide +kernel)))
  (Ak (Cy 2 Ef.nd (CG (Ac 2) (CH (Hg [("name",3)] (by rfl) Ef.nd (AK (G3 (Fj T) (L2N.takes_of (by rfl) (by rfl) (by rfl) (by rfl)) hr (by decide) (Ac 1))) (fun s2 H2 C2 cl2 fp2=>(Ax 3 Ef.nd)) (fun s2 H2 C2 cl2 fp2=>(bc (Wc (Gn T) hr (by decide) (Ac 3) (Ac 0) true rfl (by with_unfolding_all rfl)))) (fun s2 H2 C2 cl2 fp2=>(Ac 3)) (ok:=by exact blkOk_by (N:=["some","other","lone","name"]) (sc:=defScope BI) (by decide +kernel))))))
  (An (CQ (F9 N5 (FO (by rfl) T.n_len (Ae (Ac 2) Af)) Am) (An Ir) Bg)))))
theorem GB(T:Tx P w K mg base cs):ClR P w K mg base "need_alike" 2 (D6 K cs):=by
 obtain ⟨a,fd,F,hm⟩:=T.F_need_alike
 exact B7 (RF T F) hm F.kp (AG F (fun kV doc pm an cdv ct us hl=>match us,hl with | [_,_],_=>rfl))
theorem IE:FnScope ["self","other","forms","name"] ["self","other"] (defScope Cr):=⟨rfl,rfl,rfl,by decide +kernel,rfl,by decide +kernel,by decide +kernel⟩
theorem Rn(T:Tx P w K mg base cs){a:Addr}{fd:FuncData}(F:FunD K "__or__" "Map.__or__" (defArgs Cr) (defBody Cr) (defScope Cr) [] [] a fd):FnOk P w K mg base (L2N.CX P w) 9 a fd ["self","other"] (DA K 2 (AB 4 (Hj K cs))):=
 AL F IE (fun cdv A outer s H E hr=>
  (Ak (LJ (Aq (GB T) (L2N.takes_of (by rfl) (by rfl) (by rfl) (by rfl)) hr (by decide) (by rfl) (Ae (Ac 0) (Ae (Ac 1) Af))))
  (Ak (Et 2 IE.nd)
  (Ak (CD (passes_of (by rfl)) (by rfl) (AK (G3 (Fj T) (L2N.takes_of (by rfl) (by rfl) (by rfl) (by rfl)) hr (by decide) (Ac 0))) (Ax 3 IE.nd)
  (An (Ei hr 2 (Aq (R6 T) (L2N.takes_of (by rfl) (by rfl) (by rfl) (by rfl)) hr (by decide) (by rfl) (Ae (A4 hr (EH (Br T) (Ac 0)) (Ac 3)) (Ae (A4 hr (EH (Br T) (Ac 1)) (Ac 3)) Af))) (Ac 3))))
  (An (AH (Aq (NP T) (L2N.takes_of (by rfl) (by rfl) (by rfl) (by rfl)) hr (by decide) (by rfl) (Ae (Ac 2) Af))))))))
theorem Rz(T:Tx P w K mg base cs):∃ a,Meth K cs.c_Map "__or__" a∧FnR P w K mg base (L2N.CX P w) 9 a (OI K (FW K cs)):=by
 obtain ⟨a,fd,F,hm⟩:=T.F_Map___or__
 exact ⟨a,hm,IC (Rn T F) (A5 F (fun kV doc pm an cdv ct us hl=>match us,hl with | [_,_],_=>rfl))⟩
theorem Ri{X:Cx}{cs:Cs}(T:Tx X.prog X.w X.K X.mg X.base cs):MeC X.prog X.w X.K X.mg X.base 9 cs.c_Map "__or__" (FW X.K cs):=⟨T.cl_Map,Rz T⟩
theorem Bf{X:Cx}{cs:Cs}(T:Tx X.prog X.w X.K X.mg X.base cs):∀ q∈Ay X.K cs,MeC X.prog X.w X.K X.mg X.base 9 q.1 "__or__" q.2:=fun q hq=>by
 obtain rfl:=List.mem_singleton.mp hq
 exact Ri T
theorem Bc{X:Cx}{cs:Cs}(T:Tx X.prog X.w X.K X.mg X.base cs):∀ q∈Ay X.K cs,PySem.W.selfFirst X.K q.1=true:=fun q hq=>by
 obtain rfl:=List.mem_singleton.mp hq
 exact T.sf_Map
theorem Zp:FnScope ["form","other"] ["form","other"] (defScope E6):=⟨rfl,rfl,rfl,by decide +kernel,rfl,by decide +kernel,by decide +kernel⟩
theorem Yn(T:Tx P w K mg base cs){a:Addr}{fd:FuncData}(F:FunD K "either" "either" (defArgs E6) (defBody E6) (defScope E6) [] [] a fd):FnOk P w K mg base (L2N.CX P w) 4 a fd ["form","other"] (DA K 2 (AB 2 (MM K cs))):=
 AL F Zp (fun cdv A outer s H E hr=>
  (An (AH (Aq (NH T) (L2N.takes_of (by rfl) (by rfl) (by rfl) (by rfl)) hr (by decide) (by rfl) (Ae (CH (FN (Ui (Ac 0) (Ui (Ac 1) Af)))) Af)))))
theorem Sd(T:Tx P w K mg base cs):ClR P w K mg base "either" 4 (ER K cs):=by
 obtain ⟨a,fd,F,hm⟩:=T.F_either
 exact B7 (Yn T F) hm F.kp (AG F (fun kV doc pm an cdv ct us hl=>match us,hl with | [_,_],_=>rfl))
theorem HG:FnScope ["self","other","forms","name"] ["self","other"] (defScope BV):=⟨rfl,rfl,rfl,by decide +kernel,rfl,by decide +kernel,by decide +kernel⟩
theorem Qm(T:Tx P w K mg base cs){a:Addr}{fd:FuncData}(F:FunD K "__and__" "Map.__and__" (defArgs BV) (defBody BV) (defScope BV) [] [] a fd):FnOk P w K mg base (L2N.CX P w) 9 a fd ["self","other"] (DA K 2 (AB 4 (GG K cs))):=
 AL F HG (fun cdv A outer s H E hr=>
  (Ak (LJ (Aq (GB T) (L2N.takes_of (by rfl) (by rfl) (by rfl) (by rfl)) hr (by decide) (by rfl) (Ae (Ac 0) (Ae (Ac 1) Af))))
  (Ak (Et 2 HG.nd)
  (Ak (CD (passes_of (by rfl)) (by rfl) (AK (G3 (Fj T) (L2N.takes_of (by rfl) (by rfl) (by rfl) (by rfl)) hr (by decide) (Ac 0))) (Ax 3 HG.nd)
  (An (Ei hr 2 (Aq (Sd T) (L2N.takes_of (by rfl) (by rfl) (by rfl) (by rfl)) hr (by decide) (by rfl) (Ae (A4 hr (EH (Br T) (Ac 0)) (Ac 3)) (Ae (A4 hr (EH (Br T) (Ac 1)) (Ac 3)) Af))) (Ac 3))))
  (An (AH (Aq (NP T) (L2N.takes_of (by rfl) (by rfl) (by rfl) (by rfl)) hr (by decide) (by rfl) (Ae (Ac 2) Af))))))))
theorem Po(T:Tx P w K mg base cs):∃ a,Meth K cs.c_Map "__and__" a∧FnR P w K mg base (L2N.CX P w) 9 a (OI K (EY K cs)):=by
 obtain ⟨a,fd,F,hm⟩:=T.F_Map___and__
 exact ⟨a,hm,IC (Qm T F) (A5 F (fun kV doc pm an cdv ct us hl=>match us,hl with | [_,_],_=>rfl))⟩
theorem QZ{X:Cx}{cs:Cs}(T:Tx X.prog X.w X.K X.mg X.base cs):MeC X.prog X.w X.K X.mg X.base 9 cs.c_Map "__and__" (EY X.K cs):=⟨T.cl_Map,Po T⟩
theorem AZ{X:Cx}{cs:Cs}(T:Tx X.prog X.w X.K X.mg X.base cs):∀ q∈Aw X.K cs,MeC X.prog X.w X.K X.mg X.base 9 q.1 "__and__" q.2:=fun q hq=>by
 obtain rfl:=List.mem_singleton.mp hq
 exact QZ T
theorem AX{X:Cx}{cs:Cs}(T:Tx X.prog X.w X.K X.mg X.base cs):∀ q∈Aw X.K cs,PySem.W.selfFirst X.K q.1=true:=fun q hq=>by
 obtain rfl:=List.mem_singleton.mp hq
 exact T.sf_Map
theorem G9:FnScope ["self","other","name","row"] ["self","other"] (defScope BA):=⟨rfl,rfl,rfl,by decide +kernel,rfl,by decide +kernel,by decide +kernel⟩
theorem OO(T:Tx P w K mg base cs){a:Addr}{fd:FuncData}(F:FunD K "is_below" "Map.is_below" (defArgs BA) (defBody BA) (defScope BA) [] [] a fd):FnOk P w K mg base (L2N.CX P w) 3 a fd ["self","other"] (DA K 2 (AB 4 (FI K cs))):=
 AL F G9 (fun cdv A outer s H E hr=>
  (Ak (LJ (Aq (GB T) (L2N.takes_of (by rfl) (by rfl) (by rfl) (by rfl)) hr (by decide) (by rfl) (Ae (Ac 0) (Ae (Ac 1) Af))))
  (Ak (CD (passes_of (by rfl)) (by rfl) (AK (G3 (Fj T) (L2N.takes_of (by rfl) (by rfl) (by rfl) (by rfl)) hr (by decide) (Ac 0))) (Ax 2 G9.nd)
  (An (CD (passes_of (by rfl)) (by rfl) (AK (A4 hr (EH (Br T) (Ac 1)) (Ac 2))) (Ax 3 G9.nd)
  (An (CQ (Ba (Ga (Aq (MG T) (L2N.takes_of (by rfl) (by rfl) (by rfl) (by rfl)) hr (by decide) (by rfl) (Ae (A4 hr (EH (Br T) (Ac 0)) (Ac 2)) (Ae (Ac 3) Af))))) (An (AH Cu)) Bg)))))
  (An (AH Cu)))))
theorem OD(T:Tx P w K mg base cs):∃ a,Meth K cs.c_Map "is_below" a∧FnR P w K mg base (L2N.CX P w) 3 a (OI K (DS K cs)):=by
 obtain ⟨a,fd,F,hm⟩:=T.F_Map_is_below
 exact ⟨a,hm,IC (OO T F) (A5 F (fun kV doc pm an cdv ct us hl=>match us,hl with | [_,_],_=>rfl))⟩
theorem OB{X:Cx}{cs:Cs}(T:Tx X.prog X.w X.K X.mg X.base cs):MeC X.prog X.w X.K X.mg X.base 3 cs.c_Map "is_below" (DS X.K cs):=⟨T.cl_Map,OD T⟩
theorem Jd{X:Cx}{cs:Cs}(T:Tx X.prog X.w X.K X.mg X.base cs):∀ q∈CW X.K cs,MeC X.prog X.w X.K X.mg X.base 3 q.1 "is_below" q.2:=fun q hq=>by
 obtain rfl:=List.mem_singleton.mp hq
 exact OB T
theorem JW:FnScope ["_law_script","_law_k","_law_cell","#"] ["_law_script","_law_k"] (defScope DL):=⟨rfl,rfl,rfl,by decide +kernel,rfl,by decide +kernel,by decide +kernel⟩
theorem Vw(T:Tx P w K mg base cs){a:Addr}{fd:FuncData}(F:FunD K "_law_box" "_law_box" (defArgs DL) (defBody DL) (defScope DL) [] [] a fd):FnOk P w K mg base (L2N.CX P w) 1 a fd ["_law_script","_law_k"] (NJ K 2 (runM 3 (JD K cs))):=
 GO F JW rfl (by decide) (fun cdv A outer s H E hr=>
  (Ak (CQ (F9 gS (Ac 1) (FO (by rfl) T.n_len (Ae (Ac 0) Af))) (An (Cy 2 JW.nd (Ip (by rfl) T.n_int (Ae (BF 0 (Ac 1)) Af)))) (An (Cy 2 JW.nd (NB (Ip (by rfl) T.n_int (Ae (Il (bH (by rfl) (by rfl) T.n_sum (Ae (Tq (Ac 0) MH (M4 Am)) Af)) (CG Am (Il Am (Ac 1)))) Af)) Am))))
  (An (Wg (S:=[3]) (i8 (n:=3) (cu (CU (Ae (Ac 2) (Ae (Ac 1) (Ae (YV jQ (Ac 2) (Wa Am Am)) Af))))))))))
theorem Ib(T:Tx P w K mg base cs):ClM P w K mg base "_law_box" 1 (BL K cs):=by
 obtain ⟨a,fd,F,hm⟩:=T.F__law_box
 exact Jw (Vw T F) hm F.kp (A5 F (fun kV doc pm an cdv ct us hl=>match us,hl with | [_,_],_=>rfl))
theorem F6:FnScope ["_law_box_here","_law_size","_law_pick","_law_first","_law_second","_law_third","#"] ["_law_box_here","_law_size"] (defScope CS):=⟨rfl,rfl,rfl,by decide +kernel,rfl,by decide +kernel,by decide +kernel⟩
theorem TB(T:Tx P w K mg base cs){a:Addr}{fd:FuncData}(F:FunD K "_law_take" "_law_take" (defArgs CS) (defBody CS) (defScope CS) [] [] a fd):FnOk P w K mg base (L2N.CX P w) 1 a fd ["_law_box_here","_law_size"] (NJ K 2 (runM 6 (Iq K cs))):=
 GO F F6 rfl (by decide) (fun cdv A outer s H E hr=>
  (Ak (Uy (S:=[6]) 6 (I7 (CG (Hv 6 0 Am) Am)) (Ac 0) Am)
  (Ak (CQ (Ga (Hv 6 0 Am)) (Ak (Cy 2 F6.nd (NB (Ip (by rfl) T.n_int (Ae (Hv 6 0 Am) Af)) (Ac 1)))
  (Ak (Uy (S:=[6]) 6 (I7 (OY (Ip (by rfl) T.n_int (Ae (Hv 6 0 Am) Af)) (Ac 1))) (Ac 0) Am)
  (An (AH (Ac 2))))) Bg)
  (Ak (Cy 3 F6.nd (NB (Ip (by rfl) T.n_int (Ae (Il (Hv 6 0 Am) (CG Am (Il Am (Hv 6 0 Am)))) Af)) Am))
  (Ak (Cy 4 F6.nd (NB (Ip (by rfl) T.n_int (Ae (CG (Il (Ac 3) (Ac 3)) (Il (Ac 3) (CG (Hv 6 0 Am) Am))) Af)) Am))
  (Ak (Cy 5 F6.nd (NB (Ip (by rfl) T.n_int (Ae (Il (Ac 4) (CG (OY (Ac 4) Am) Am)) Af)) Am))
  (An (AH (NB (Ip (by rfl) T.n_int (Ae (CG (CG (OY (Ac 5) Am) (Il Am (Hv 6 0 Am))) (OY (Hv 6 0 Am) Am)) Af)) (Ac 1))))))))))
theorem AU(T:Tx P w K mg base cs):ClM P w K mg base "_law_take" 1 (Ap K cs):=by
 obtain ⟨a,fd,F,hm⟩:=T.F__law_take
 exact Jw (TB T F) hm F.kp (A5 F (fun kV doc pm an cdv ct us hl=>match us,hl with | [_,_],_=>rfl))
theorem LF:FnScope ["_law_names_here","_law_k"] ["_law_names_here"] (defScope Cj):=⟨rfl,rfl,rfl,by decide +kernel,rfl,by decide +kernel,by decide +kernel⟩
theorem Rf(T:Tx P w K mg base cs){a:Addr}{fd:FuncData}(F:FunD K "_law_fresh" "_law_fresh" (defArgs Cj) (defBody Cj) (defScope Cj) [] [] a fd):FnOk P w K mg base (L2N.CX P w) 1 a fd ["_law_names_here"] (DA K 1 (AB 2 (Hk K cs))):=
 AL F LF (fun cdv A outer s H E hr=>
  (Ak (CD (passes_of (by rfl)) (by rfl) (HD (by rfl) T.n_range (CG (FO (by rfl) T.n_len (Ae (Ac 0) Af)) Am)) (Ax 1 LF.nd)
  (An (CQ (F9 Yl (CG EJ (X9 (by rfl) T.n_str (Ae (Ac 1) Af))) (Ac 0) (hm:=by with_unfolding_all rfl)) (An (AH (CG EJ (X9 (by rfl) T.n_str (Ae (Ac 1) Af))))) Bg)))
  (An (AH EJ))))
theorem RK(T:Tx P w K mg base cs):ClR P w K mg base "_law_fresh" 1 (ED K cs):=by
 obtain ⟨a,fd,F,hm⟩:=T.F__law_fresh
 exact B7 (Rf T F) hm F.kp (AG F (fun kV doc pm an cdv ct us hl=>match us,hl with | [_],_=>rfl))
theorem D9:FnScope ["_law_box_here","_law_letters","_law_word_here","_law_size","_law_k","#"] ["_law_box_here"] (defScope C6):=⟨rfl,rfl,rfl,by decide +kernel,rfl,by decide +kernel,by decide +kernel⟩
theorem Tf(T:Tx P w K mg base cs){a:Addr}{fd:FuncData}(F:FunD K "_law_word" "_law_word" (defArgs C6) (defBody C6) (defScope C6) [] [] a fd):FnOk P w K mg base (L2N.CX P w) 2 a fd ["_law_box_here"] (NJ K 1 (runM 5 (Iu K cs))):=
 GO F D9 rfl (by decide) (fun cdv A outer s H E hr=>
  (Ak (Cy 1 D9.nd EJ)
  (Ak (UG (S:=[5]) (X2 N5 (A3 (n:=5) (AU T) (L2N.takes_of (by rfl) (by rfl) (by rfl) (by rfl)) hr (by decide) (by rfl) (CU (Ae (Ac 0) (Ae Am Af)))) (I7 Am)) (An (Wg (S:=[5]) (VM (I7 (CH (FN (Ae EJ (Ae EJ (Ae EJ (Ae EJ (Ae EJ (Ae EJ (Ae EJ (Ae EJ Af))))))))))) (A3 (n:=5) (AU T) (L2N.takes_of (by rfl) (by rfl) (by rfl) (by rfl)) hr (by decide) (by rfl) (CU (Ae (Ac 0) (Ae Am Af))))))) Bg)
  (Ak (Eh (S:=[5]) 2 D9.nd (g6 1 (A3 (n:=5) (AU T) (L2N.takes_of (by rfl) (by rfl) (by rfl) (by rfl)) hr (by decide) (by rfl) (CU (Ae (Ac 0) (Ae Am Af))))))
  (Ak (Eh (S:=[5]) 3 D9.nd (A3 (n:=5) (AU T) (L2N.takes_of (by rfl) (by rfl) (by rfl) (by rfl)) hr (by decide) (by rfl) (CU (Ae (Ac 0) (Ae Am Af)))))
  (Ak (UG (S:=[5]) (X2 (IS (Sk hr)) (A3 (n:=5) (AU T) (L2N.takes_of (by rfl) (by rfl) (by rfl) (by rfl)) hr (by decide) (by rfl) (CU (Ae (Ac 0) (Ae Am Af)))) (I7 Am)) (An (Cy 3 D9.nd Am)) Bg)
  (Ak (CD (passes_of (by rfl)) (by rfl) (HD (by rfl) T.n_range (Ac 3)) (Ax 4 D9.nd)
  (An (Eh (S:=[5]) 2 D9.nd (NV (I7 (Ac 2)) (VM (I7 (CG (Ac 1) EJ)) (A3 (n:=5) (AU T) (L2N.takes_of (by rfl) (by rfl) (by rfl) (by rfl)) hr (by decide) (by rfl) (CU (Ae (Ac 0) (Ae Am Af)))))))))
  (An (AH (Ac 2))))))))))
theorem S5(T:Tx P w K mg base cs):ClM P w K mg base "_law_word" 2 (Fm K cs):=by
 obtain ⟨a,fd,F,hm⟩:=T.F__law_word
 exact Jw (Tf T F) hm F.kp (A5 F (fun kV doc pm an cdv ct us hl=>match us,hl with | [_],_=>rfl))
theorem EU:FnScope ["_law_box_here","_law_count","_law_names_here","_law_k","_law_word_here","#"] ["_law_box_here","_law_count"] (defScope Cm):=⟨rfl,rfl,rfl,by decide +kernel,rfl,by decide +kernel,by decide +kernel⟩
theorem Rh(T:Tx P w K mg base cs){a:Addr}{fd:FuncData}(F:FunD K "_law_names" "_law_names" (defArgs Cm) (defBody Cm) (defScope Cm) [] [] a fd):FnOk P w K mg base (L2N.CX P w) 3 a fd ["_law_box_here","_law_count"] (NJ K 2 (runM 5 (Hr K cs))):=
 GO F EU rfl (by decide) (fun cdv A outer s H E hr=>
  (Ak (Qe 2 EU.nd (FN Af))
  (Ak (CD (passes_of (by rfl)) (by rfl) (HD (by rfl) T.n_range (Ac 1)) (Ax 3 EU.nd)
  (Ak (Eh (S:=[5]) 4 EU.nd (A3 (n:=5) (S5 T) (L2N.takes_of (by rfl) (by rfl) (by rfl) (by rfl)) hr (by decide) (by rfl) (CU (Ae (Ac 0) Af))))
  (Ak (CQ (F9 jn (Ac 4) (Ac 2) (hm:=by with_unfolding_all rfl)) (An (Cy 4 EU.nd (Aq (RK T) (L2N.takes_of (by rfl) (by rfl) (by rfl) (by rfl)) hr (by decide) (by rfl) (Ae (Ac 2) Af)))) Bg)
  (An (MD 2 (Ac 4))))))
  (An (AH (Ac 2))))))
theorem Q7(T:Tx P w K mg base cs):ClM P w K mg base "_law_names" 3 (F3 K cs):=by
 obtain ⟨a,fd,F,hm⟩:=T.F__law_names
 exact Jw (Rh T F) hm F.kp (A5 F (fun kV doc pm an cdv ct us hl=>match us,hl with | [_,_],_=>rfl))
theorem Kb:FnScope ["_law_box_here","_law_spreads","#"] ["_law_box_here"] (defScope BU):=⟨rfl,rfl,rfl,by decide +kernel,rfl,by decide +kernel,by decide +kernel⟩
theorem Pj(T:Tx P w K mg base cs){a:Addr}{fd:FuncData}(F:FunD K "_law_spread" "_law_spread" (defArgs BU) (defBody BU) (defScope BU) [] [] a fd):FnOk P w K mg base (L2N.CX P w) 2 a fd ["_law_box_here"] (NJ K 1 (runM 2 (GC K cs))):=
 GO F Kb rfl (by decide) (fun cdv A outer s H E hr=>
  (Ak (Cy 1 Kb.nd (CH (FN (Ae (F5 (Ae Am (Ae Am Af))) (Ae (F5 (Ae Am (Ae Am Af))) (Ae (F5 (Ae Am (Ae (LN Am Am) Af))) (Ae (F5 (Ae Am (Ae (LN Am Am) Af))) (Ae (F5 (Ae Am (Ae (LN Am Am) Af))) (Ae (F5 (Ae Am (Ae (LN Am Am) Af))) (Ae (F5 (Ae Am (Ae (Wa Am Am) Af))) Af))))))))))
  (An (Wg (S:=[2]) (VM (I7 (CG (Ac 1) (CH (FN (Ae (F5 (Ae Am (Ae (LN Am (Wa Am Am)) Af))) Af))))) (A3 (n:=2) (AU T) (L2N.takes_of (by rfl) (by rfl) (by rfl) (by rfl)) hr (by decide) (by rfl) (CU (Ae (Ac 0) (Ae Am Af)))))))))
theorem Px(T:Tx P w K mg base cs):ClM P w K mg base "_law_spread" 2 (E3 K cs):=by
 obtain ⟨a,fd,F,hm⟩:=T.F__law_spread
 exact Jw (Pj T F) hm F.kp (A5 F (fun kV doc pm an cdv ct us hl=>match us,hl with | [_],_=>rfl))
theorem Ie:FnScope ["_law_box_here","_law_names_here","_law_spread_here","_law_turn","_law_row_here","_law_name","#"] ["_law_box_here","_law_names_here","_law_spread_here"] (defScope DG):=⟨rfl,rfl,rfl,by decide +kernel,rfl,by decide +kernel,by decide +kernel⟩
theorem VN(T:Tx P w K mg base cs){a:Addr}{fd:FuncData}(F:FunD K "_law_row" "_law_row" (defArgs DG) (defBody DG) (defScope DG) [] [] a fd):FnOk P w K mg base (L2N.CX P w) 2 a fd ["_law_box_here","_law_names_here","_law_spread_here"] (NJ K 3 (runM 6 (Js K cs))):=
 GO F Ie rfl (by decide) (fun cdv A outer s H E hr=>
  (Ak (Eh (S:=[6]) 3 Ie.nd (A3 (n:=6) (AU T) (L2N.takes_of (by rfl) (by rfl) (by rfl) (by rfl)) hr (by decide) (by rfl) (CU (Ae (Ac 0) (Ae (FO (by rfl) T.n_len (Ae (Ac 1) Af)) Af)))))
  (Ak (Eh (S:=[6]) 4 Ie.nd (Wx (n:=6)))
  (Ak (CD (passes_of (by rfl)) (by rfl) (AK (CG (Tq (Ac 1) (M4 (Ac 3)) MH) (Tq (Ac 1) MH (M4 (Ac 3))))) (Ax 5 Ie.nd)
  (An (UG (S:=[6]) (X2 (IS (Sk hr)) (A3 (n:=6) (AU T) (L2N.takes_of (by rfl) (by rfl) (by rfl) (by rfl)) hr (by decide) (by rfl) (CU (Ae (Ac 0) (Ae Am Af)))) (I7 Am)) (An (Xe (S:=[6]) 6 hr (NV (A3 (n:=6) (AU T) (L2N.takes_of (by rfl) (by rfl) (by rfl) (by rfl)) hr (by decide) (by rfl) (CU (Ae (Ac 0) (Ae (BF 2 Am) Af)))) (I7 (BF 2 Am))) (Ac 4) (Ac 5))) Bg)))
  (Ak (CQ (F9 (IS (Sk hr)) (ZU 6 4 (by rfl) T.n_len) Am) (An (Xe (S:=[6]) 6 hr (NV (A3 (n:=6) (AU T) (L2N.takes_of (by rfl) (by rfl) (by rfl) (by rfl)) hr (by decide) (by rfl) (CU (Ae (Ac 0) (Ae (BF 2 Am) Af)))) (I7 (BF 2 Am))) (Ac 4) (BF 1 (Ac 3)))) Bg)
  (An (AH (Ac 4))))))))
theorem Vq(T:Tx P w K mg base cs):ClM P w K mg base "_law_row" 2 (Er K cs):=by
 obtain ⟨a,fd,F,hm⟩:=T.F__law_row
 exact Jw (VN T F) hm F.kp (A5 F (fun kV doc pm an cdv ct us hl=>match us,hl with | [_,_,_],_=>rfl))
theorem Dc:FnScope ["_law_script","_law_begin","_law_names_here","_law_spread_here","_law_shape","_law_rules_here","_law_k","_law_box_here","_law_rows","_law_n","_law_row_here","_law_word_here","#"] ["_law_script","_law_begin","_law_names_here","_law_spread_here","_law_shape"] (defScope Cd):=⟨rfl,rfl,rfl,by decide +kernel,rfl,by decide +kernel,by decide +kernel⟩
theorem Rv(T:Tx P w K mg base cs){a:Addr}{fd:FuncData}(F:FunD K "_law_rules" "_law_rules" (defArgs Cd) (defBody Cd) (defScope Cd) [] [] a fd):FnOk P w K mg base (L2N.CX P w) 3 a fd ["_law_script","_law_begin","_law_names_here","_law_spread_here","_law_shape"] (DA K 5 (QP 12 (Hz K cs))):=
 Xn F Dc rfl (by decide) (fun cdv A outer s H E hr=>
  (Ak (Et 5 Dc.nd)
  (Ak (CD (passes_of (by rfl)) (by rfl) (HD (by rfl) T.n_range (FO (by rfl) T.n_len (Ae (Ac 2) Af))) (Ax 6 Dc.nd)
  (Ak (Eh (S:=[12]) 7 Dc.nd (A3 (n:=12) (Ib T) (L2N.takes_of (by rfl) (by rfl) (by rfl) (by rfl)) hr (by decide) (by rfl) (CU (Ae (Ac 0) (Ae (CG (Ac 1) (Ac 6)) Af)))))
  (Ak (Qe 8 Dc.nd (FN Af))
  (Ak (iu (S:=[12]) (passes_of (by rfl)) (by rfl) (Z9 (by rfl) T.n_range (NV (I7 Am) (A3 (n:=12) (AU T) (L2N.takes_of (by rfl) (by rfl) (by rfl) (by rfl)) hr (by decide) (by rfl) (CU (Ae (Ac 7) (Ae (gB (CH (FN (Ae Am (Ae Am (Ae Am Af))))) (Ac 4)) Af)))))) (Ax 9 Dc.nd)
  (Ak (Eh (S:=[12]) 10 Dc.nd (A3 (n:=12) (Vq T) (L2N.takes_of (by rfl) (by rfl) (by rfl) (by rfl)) hr (by decide) (by rfl) (CU (Ae (Ac 7) (Ae (Ac 2) (Ae (Ac 3) Af))))))
  (Ak (CD (passes_of (by rfl)) (by rfl) (AK (Tq (CH (Ye 12 10 (by rfl) (by rfl) T.n_list)) (M4 (gB (CH (FN (Ae Am (Ae Am (Ae Am Af))))) (Ac 4))) MH)) (Ax 11 Dc.nd)
  (An (dM 12 10 (Ac 11) ⟨rfl,rfl,rfl,rfl⟩)))
  (An (Zt (S:=[12]) 8 (fB 12 (Ac 10)))))))
  (An (Ei hr 5 (Ac 8) (BF 2 (Ac 6))))))))
  (An (AH (Ac 5))))))
theorem Rm(T:Tx P w K mg base cs):ClR P w K mg base "_law_rules" 3 (Dz K cs):=by
 obtain ⟨a,fd,F,hm⟩:=T.F__law_rules
 exact B7 (Rv T F) hm F.kp (A5 F (fun kV doc pm an cdv ct us hl=>match us,hl with | [_,_,_,_,_],_=>rfl))
theorem FJ:FnScope ["_law_rules_here","_law_found","_law_name","_law_row_here"] ["_law_rules_here"] (defScope Cv):=⟨rfl,rfl,rfl,by decide +kernel,rfl,by decide +kernel,by decide +kernel⟩
theorem TZ(T:Tx P w K mg base cs){a:Addr}{fd:FuncData}(F:FunD K "_law_copy" "_law_copy" (defArgs Cv) (defBody Cv) (defScope Cv) [] [] a fd):FnOk P w K mg base (L2N.CX P w) 1 a fd ["_law_rules_here"] (DA K 1 (AB 4 (Ig K cs))):=
 AL F FJ (fun cdv A outer s H E hr=>
  (Ak (Et 1 FJ.nd)
  (Ak (HR 0 (passes_of (by rfl)) (by rfl) (Ax 2 FJ.nd)
  (An (Ei hr 1 (CH (Hg [("_law_row_here",3)] (by rfl) FJ.nd (AK (A4 hr (Ac 0) (Ac 2))) (fun s2 H2 C2 cl2 fp2=>(Ax 3 FJ.nd)) (fun s2 H2 C2 cl2 fp2=>CL) (fun s2 H2 C2 cl2 fp2=>(Vu (by rfl) T.n_dict (Ae (Ac 3) Af))) (ok:=by exact blkOk_by (N:=["_law_rules_here","_law_found","_law_name","_law_row_here"]) (sc:=defScope Cv) (by decide +kernel)))) (Ac 2))))
  (An (AH (Ac 1))))))
theorem JE(T:Tx P w K mg base cs):ClR P w K mg base "_law_copy" 1 (C9 K cs):=by
 obtain ⟨a,fd,F,hm⟩:=T.F__law_copy
 exact B7 (TZ T F) hm F.kp (AG F (fun kV doc pm an cdv ct us hl=>match us,hl with | [_],_=>rfl))
theorem U4:FnScope ["self","name"] ["self","name"] (defScope DK):=⟨rfl,rfl,rfl,by decide +kernel,rfl,by decide +kernel,by decide +kernel⟩
theorem Vm(T:Tx P w K mg base cs){a:Addr}{fd:FuncData}(F:FunD K "form" "Map.form" (defArgs DK) (defBody DK) (defScope DK) [] [] a fd):FnOk P w K mg base (L2N.CX P w) 1 a fd ["self","name"] (DA K 2 (AB 2 (JA K cs))):=
 AL F U4 (fun cdv A outer s H E hr=>
  (Ak (CQ (Gv hr (Ac 1) (EH (Br T) (Ac 0))) (An Ir) Bg)
  (An (AH (A4 hr (EH (Br T) (Ac 0)) (Ac 1))))))
theorem Vz(T:Tx P w K mg base cs):∃ a,Meth K cs.c_Map "form" a∧FnR P w K mg base (L2N.CX P w) 1 a (OI K (Gi K cs)):=by
 obtain ⟨a,fd,F,hm⟩:=T.F_Map_form
 exact ⟨a,hm,IC (Vm T F) (A5 F (fun kV doc pm an cdv ct us hl=>match us,hl with | [_,_],_=>rfl))⟩
theorem VJ{X:Cx}{cs:Cs}(T:Tx X.prog X.w X.K X.mg X.base cs):MeC X.prog X.w X.K X.mg X.base 1 cs.c_Map "form" (Gi X.K cs):=⟨T.cl_Map,Vz T⟩
theorem aa{X:Cx}{cs:Cs}(T:Tx X.prog X.w X.K X.mg X.base cs):∀ q∈ML X.K cs,MeC X.prog X.w X.K X.mg X.base 1 q.1 "form" q.2:=fun q hq=>by
 obtain rfl:=List.mem_singleton.mp hq
 exact VJ T
theorem O7:FnScope ["self"] ["self"] (defScope BQ):=⟨rfl,rfl,rfl,by decide +kernel,rfl,by decide +kernel,by decide +kernel⟩
theorem QI(T:Tx P w K mg base cs){a:Addr}{fd:FuncData}(F:FunD K "__len__" "Map.__len__" (defArgs BQ) (defBody BQ) (defScope BQ) [] [] a fd):FnOk P w K mg base (L2N.CX P w) 1 a fd ["self"] (DA K 1 (AB 1 (GF K cs))):=
 AL F O7 (fun cdv A outer s H E hr=>
  (An (AH (Tu (by rfl) T.n_len (Ae (EH (Br T) (Ac 0)) Af)))))
theorem Pk(T:Tx P w K mg base cs):∃ a,Meth K cs.c_Map "__len__" a∧FnR P w K mg base (L2N.CX P w) 1 a (OI K (Eg K cs)):=by
 obtain ⟨a,fd,F,hm⟩:=T.F_Map___len__
 exact ⟨a,hm,IC (QI T F) (A5 F (fun kV doc pm an cdv ct us hl=>match us,hl with | [_],_=>rfl))⟩
theorem Qf{X:Cx}{cs:Cs}(T:Tx X.prog X.w X.K X.mg X.base cs):MeC X.prog X.w X.K X.mg X.base 1 cs.c_Map "__len__" (Eg X.K cs):=⟨T.cl_Map,Pk T⟩
theorem Va{X:Cx}{cs:Cs}(T:Tx X.prog X.w X.K X.mg X.base cs):∀ q∈Gu X.K cs,MeC X.prog X.w X.K X.mg X.base 1 q.1 "__len__" q.2:=fun q hq=>by
 obtain rfl:=List.mem_singleton.mp hq
 exact Qf T
theorem LA:FnScope ["_law_low","_law_high","_law_name"] ["_law_low","_law_high"] (defScope Cp):=⟨rfl,rfl,rfl,by decide +kernel,rfl,by decide +kernel,by decide +kernel⟩
theorem RI(T:Tx P w K mg base cs){a:Addr}{fd:FuncData}(F:FunD K "_law_below" "_law_below" (defArgs Cp) (defBody Cp) (defScope Cp) [] [] a fd):FnOk P w K mg base (L2N.CX P w) 1 a fd ["_law_low","_law_high"] (DA K 2 (AB 3 (Ht K cs))):=
 AL F LA (fun cdv A outer s H E hr=>
  (Ak (HR 0 (passes_of (by rfl)) (by rfl) (Ax 2 LA.nd)
  (An (CQ (Q5 (Di (Gv hr (Ac 2) (Ac 1)) (CF (F9 N5 (A4 hr (Ac 0) (Ac 2)) (A4 hr (Ac 1) (Ac 2)))))) (An (AH Cu)) Bg)))
  (An (AH Cu))))
theorem IK(T:Tx P w K mg base cs):ClR P w K mg base "_law_below" 1 (AO K cs):=by
 obtain ⟨a,fd,F,hm⟩:=T.F__law_below
 exact B7 (RI T F) hm F.kp (AG F (fun kV doc pm an cdv ct us hl=>match us,hl with | [_,_],_=>rfl))
theorem Th:FnScope ["_law_row_here"] ["_law_row_here"] (defScope C0):=⟨rfl,rfl,rfl,by decide +kernel,rfl,by decide +kernel,by decide +kernel⟩
theorem SK(T:Tx P w K mg base cs){a:Addr}{fd:FuncData}(F:FunD K "_law_flat" "_law_flat" (defArgs C0) (defBody C0) (defScope C0) [] [] a fd):FnOk P w K mg base (L2N.CX P w) 1 a fd ["_law_row_here"] (DA K 1 (AB 1 (Iz K cs))):=
 AL F Th (fun cdv A outer s H E hr=>
  (An (AH (P8 (by rfl) T.n_tuple (Ae (CH (G2 hr (by rfl) T.n_sorted (Ae (CH (Pn (by rfl) (Ac 0) (by rfl) T.n_list)) Af))) Af)))))
theorem SV(T:Tx P w K mg base cs):ClR P w K mg base "_law_flat" 1 (G1 K cs):=by
 obtain ⟨a,fd,F,hm⟩:=T.F__law_flat
 exact B7 (SK T F) hm F.kp (AG F (fun kV doc pm an cdv ct us hl=>match us,hl with | [_],_=>rfl))
theorem Ov:FnScope ["_law_told"] ["_law_told"] (defScope BD):=⟨rfl,rfl,rfl,by decide +kernel,rfl,by decide +kernel,by decide +kernel⟩
theorem Ou(T:Tx P w K mg base cs){a:Addr}{fd:FuncData}(F:FunD K "_law_integer" "_law_integer" (defArgs BD) (defBody BD) (defScope BD) [] [] a fd):FnOk P w K mg base (L2N.CX P w) 1 a fd ["_law_told"] (DA K 1 (AB 1 (FQ K cs))):=
 AL F Ov (fun cdv A outer s H E hr=>
  (An (AH (LM (Jo (by rfl) T.n_isinstance (Ae (Ac 0) (Ae (Hs (by rfl) T.n_int aV) Af))) (N3 (jA (Jo (by rfl) T.n_isinstance (Ae (Ac 0) (Ae (Hs (by rfl) T.n_bool W3) Af)))))))))
theorem JJ(T:Tx P w K mg base cs):ClR P w K mg base "_law_integer" 1 (Bz K cs):=by
 obtain ⟨a,fd,F,hm⟩:=T.F__law_integer
 exact B7 (Ou T F) hm F.kp (AG F (fun kV doc pm an cdv ct us hl=>match us,hl with | [_],_=>rfl))
theorem D4:FnScope ["_law_told","_law_rows","_law_row_here","_law_found","_law_last","_law_pair"] ["_law_told"] (defScope C5):=⟨rfl,rfl,rfl,by decide +kernel,rfl,by decide +kernel,by decide +kernel⟩
theorem TN(T:Tx P w K mg base cs){a:Addr}{fd:FuncData}(F:FunD K "_law_form" "_law_form" (defArgs C5) (defBody C5) (defScope C5) [] [] a fd):FnOk P w K mg base (L2N.CX P w) 2 a fd ["_law_told"] (DA K 1 (AB 6 (Im K cs))):=
 AL F D4 (fun cdv A outer s H E hr=>
  (Ak (CQ (Q5 (Di (Ba (Ga (Jo (by rfl) T.n_isinstance (Ae (Ac 0) (Ae (Hs (by rfl) T.n_tuple Np) Af))))) (CF (F9 (IS (Sk hr)) (FO (by rfl) T.n_len (Ae (Ac 0) Af)) Am)))) (An (AH Pq)) Bg)
  (Ak (Qe 1 D4.nd (FN Af))
  (Ak (CD (passes_of (by rfl)) (by rfl) (AK (Ac 0)) (Ax 2 D4.nd)
  (Ak (CQ (Q5 (Di (Ba (Ga (Jo (by rfl) T.n_isinstance (Ae (Ac 2) (Ae (Hs (by rfl) T.n_tuple Np) Af))))) (CF (F9 (IS (Sk hr)) (FO (by rfl) T.n_len (Ae (Ac 2) Af)) Am)))) (An (AH Pq)) Bg)
  (Ak (Et 3 D4.nd)
  (Ak (Cy 4 D4.nd EJ)
  (Ak (CD (passes_of (by rfl)) (by rfl) (AK (Ac 2)) (Ax 5 D4.nd)
  (Ak (CQ (Q5 (Di (Ba (Ga (Jo (by rfl) T.n_isinstance (Ae (Ac 5) (Ae (Hs (by rfl) T.n_tuple Np) Af))))) (CF (F9 (R8 (Sk hr)) (FO (by rfl) T.n_len (Ae (Ac 5) Af)) Am)))) (An (AH Pq)) Bg)
  (Ak (CQ (Q5 (Di (Ba (Ga (Jo (by rfl) T.n_isinstance (Ae (BF 5 Am) (Ae (Hs (by rfl) T.n_str bJ) Af))))) (Di (Ba (Ga (Aq (JJ T) (L2N.takes_of (by rfl) (by rfl) (by rfl) (by rfl)) hr (by decide) (by rfl) (Ae (BF 5 Am) Af)))) (CF (F9 (bN hr) (BF 5 Am) (Ac 4)))))) (An (AH Pq)) Bg)
  (Ak (Cy 4 D4.nd (BF 5 Am))
  (An (Ei hr 3 (BF 5 Am) (Ac 4)))))))
  (An (MD 1 (Ac 3))))))))
  (An (AH (Ac 1)))))))
theorem T1(T:Tx P w K mg base cs):ClR P w K mg base "_law_form" 2 (Io K cs):=by
 obtain ⟨a,fd,F,hm⟩:=T.F__law_form
 exact B7 (TN T F) hm F.kp (AG F (fun kV doc pm an cdv ct us hl=>match us,hl with | [_],_=>rfl))
theorem B1:FnScope ["_law_told","_law_rows","_law_lows","_law_flats","_law_row_here","_law_k","_law_n","_law_low"] ["_law_told","_law_rows"] (defScope Bu):=⟨rfl,rfl,rfl,by decide +kernel,rfl,by decide +kernel,by decide +kernel⟩
theorem QT(T:Tx P w K mg base cs){a:Addr}{fd:FuncData}(F:FunD K "_law_normal" "_law_normal" (defArgs Bu) (defBody Bu) (defScope Bu) [] [] a fd):FnOk P w K mg base (L2N.CX P w) 3 a fd ["_law_told","_law_rows"] (DA K 2 (AB 8 (GK K cs))):=
 AL F B1 (fun cdv A outer s H E hr=>
  (Ak (Cy 2 B1.nd (Aq (T1 T) (L2N.takes_of (by rfl) (by rfl) (by rfl) (by rfl)) hr (by decide) (by rfl) (Ae (Ac 0) Af)))
  (Ak (CQ (F9 iH (Ac 2) Pq) (An (AH Cu)) Bg)
  (Ak (Tt 3 [("_law_row_here",4)] (by rfl) B1.nd (AK (Ac 1)) (fun s2 H2 C2 cl2 fp2=>(Ax 4 B1.nd)) (fun s2 H2 C2 cl2 fp2=>CL) (fun s2 H2 C2 cl2 fp2=>(Aq (SV T) FD.takes0 hr (by decide) (by rfl) (Ae (Ac 4) Af))) (ok:=by exact blkOk_by (N:=["_law_told","_law_rows","_law_lows","_law_flats","_law_row_here","_law_k","_law_n","_law_low"]) (sc:=defScope Bu) (by decide +kernel)))
  (Ak (CD (passes_of (by rfl)) (by rfl) (HD (by rfl) T.n_range (FO (by rfl) T.n_len (Ae (Ac 0) Af))) (Ax 5 B1.nd)
  (Ak (CQ (Q5 (Di (F9 (YZ hr) (BF 0 (Ac 5)) (Ac 3) (hm:=by with_unfolding_all rfl)) (CF (Q5 (Xi (F9 N5 (Ac 5) Am) (VG (Ba (F9 (bN hr) (BF 0 (LN (Ac 5) Am)) (BF 0 (Ac 5)))))))))) (An (AH Cu)) Bg)
  (An (CD (passes_of (by rfl)) (by rfl) (HD (by rfl) T.n_range (FO (by rfl) T.n_len (Ae (Ac 2) Af))) (Ax 6 B1.nd)
  (An (CQ (Q5 (Xi (F9 (R8 (Sk hr)) (Ac 6) (Ac 5)) (VG (Ga (Aq (IK T) (L2N.takes_of (by rfl) (by rfl) (by rfl) (by rfl)) hr (by decide) (by rfl) (Ae (BF 2 (Ac 6)) (Ae (BF 2 (Ac 5)) Af))))))) (An (AH Cu)) Bg))))))
  (Ak (CD (passes_of (by rfl)) (by rfl) (AK (Ac 1)) (Ax 4 B1.nd)
  (An (CQ (Ba (Ga (aJ (by rfl) (by rfl) T.n_any (Ae (CH (Hg [("_law_low",7)] (by rfl) B1.nd (AK (Ac 2)) (fun s2 H2 C2 cl2 fp2=>(Ax 7 B1.nd)) (fun s2 H2 C2 cl2 fp2=>CL) (fun s2 H2 C2 cl2 fp2=>(Aq (IK T) FD.takes0 hr (by decide) (by rfl) (Ae (Ac 7) (Ae (Ac 4) Af)))) (ok:=by exact blkOk_by (N:=["_law_told","_law_rows","_law_lows","_law_flats","_law_row_here","_law_k","_law_n","_law_low"]) (sc:=defScope Bu) (by decide +kernel)))) Af)))) (An (AH Cu)) Bg)))
  (An (AH Cu))))))))
theorem QV(T:Tx P w K mg base cs):ClR P w K mg base "_law_normal" 3 (DI K cs):=by
 obtain ⟨a,fd,F,hm⟩:=T.F__law_normal
 exact B7 (QT T F) hm F.kp (AG F (fun kV doc pm an cdv ct us hl=>match us,hl with | [_,_],_=>rfl))
theorem GP:FnScope ["_law_told","_law_rules_here","_law_names_here","_law_shown","_law_name"] ["_law_told","_law_rules_here"] (defScope Ck):=⟨rfl,rfl,rfl,by decide +kernel,rfl,by decide +kernel,by decide +kernel⟩
theorem Rk(T:Tx P w K mg base cs){a:Addr}{fd:FuncData}(F:FunD K "_law_right" "_law_right" (defArgs Ck) (defBody Ck) (defScope Ck) [] [] a fd):FnOk P w K mg base (L2N.CX P w) 4 a fd ["_law_told","_law_rules_here"] (DA K 2 (AB 5 (Hu K cs))):=
 AL F GP (fun cdv A outer s H E hr=>
  (Ak (Cy 2 GP.nd (O3 (by rfl) T.n_tuple (Ae (CH (G2 hr (by rfl) T.n_sorted (Ae (CH (HW (by rfl) (by rfl) T.n_list (Ae (Ac 1) Af))) Af))) Af)))
  (Ak (Cy 3 GP.nd (G3 (Fj T) (L2N.takes_of (by rfl) (by rfl) (by rfl) (by rfl)) hr (by decide) (Ac 0)))
  (Ak (CQ (Q5 (Di (Ba (Ga (Jo (by rfl) T.n_isinstance (Ae (Ac 3) (Ae (Hs (by rfl) T.n_tuple Np) Af))))) (Di (F9 (R8 (Sk hr)) (Ac 3) (Ac 2)) (CF (F9 (R8 (Sk hr)) (e9 (Va T) hr (by decide) (by rfl) T.n_len (Ae (Ac 0) Af)) (FO (by rfl) T.n_len (Ae (Ac 2) Af))))))) (An (AH Cu)) Bg)
  (Ak (CD (passes_of (by rfl)) (by rfl) (AK (Ac 2)) (Ax 4 GP.nd)
  (An (CQ (Q5 (Di (Wc (Gn T) hr (by decide) (Ac 4) (Ac 0) true rfl (by with_unfolding_all rfl)) (CF (Ba (Ga (Aq (QV T) (L2N.takes_of (by rfl) (by rfl) (by rfl) (by rfl)) hr (by decide) (by rfl) (Ae (OV (aa T) (L2N.takes_of (by rfl) (by rfl) (by rfl) (by rfl)) hr (by decide) (Ac 0) (Ae (Ac 4) Af)) (Ae (A4 hr (Ac 1) (Ac 4)) Af)))))))) (An (AH Cu)) Bg)))
  (An (AH Cu)))))))
theorem E4(T:Tx P w K mg base cs):ClR P w K mg base "_law_right" 4 (BG K cs):=by
 obtain ⟨a,fd,F,hm⟩:=T.F__law_right
 exact B7 (Rk T F) hm F.kp (AG F (fun kV doc pm an cdv ct us hl=>match us,hl with | [_,_],_=>rfl))
theorem Dd:FnScope ["_law_box_here","_law_rules_here","_law_found","_law_name","_law_rows","_law_row_here","_law_above","_law_word_here","#"] ["_law_box_here","_law_rules_here"] (defScope BW):=⟨rfl,rfl,rfl,by decide +kernel,rfl,by decide +kernel,by decide +kernel⟩
theorem P7(T:Tx P w K mg base cs){a:Addr}{fd:FuncData}(F:FunD K "_law_raised" "_law_raised" (defArgs BW) (defBody BW) (defScope BW) [] [] a fd):FnOk P w K mg base (L2N.CX P w) 2 a fd ["_law_box_here","_law_rules_here"] (NJ K 2 (runM 8 (GD K cs))):=
 GO F Dd rfl (by decide) (fun cdv A outer s H E hr=>
  (Ak (Et 2 Dd.nd)
  (Ak (HR 1 (passes_of (by rfl)) (by rfl) (Ax 3 Dd.nd)
  (Ak (Qe 4 Dd.nd (FN Af))
  (Ak (CD (passes_of (by rfl)) (by rfl) (AK (A4 hr (Ac 1) (Ac 3))) (Ax 5 Dd.nd)
  (Ak (Et 6 Dd.nd)
  (Ak (HR 5 (passes_of (by rfl)) (by rfl) (Ax 7 Dd.nd)
  (An (Xq (S:=[8]) hr 6 (NV (I7 (A4 hr (Ac 5) (Ac 7))) (A3 (n:=8) (AU T) (L2N.takes_of (by rfl) (by rfl) (by rfl) (by rfl)) hr (by decide) (by rfl) (CU (Ae (Ac 0) (Ae Am Af))))) (Ac 7))))
  (An (MD 4 (Ac 6))))))
  (An (Ei hr 2 (Ac 4) (Ac 3))))))
  (An (AH (Ac 2))))))
theorem Qj(T:Tx P w K mg base cs):ClM P w K mg base "_law_raised" 2 (DD K cs):=by
 obtain ⟨a,fd,F,hm⟩:=T.F__law_raised
 exact Jw (P7 T F) hm F.kp (A5 F (fun kV doc pm an cdv ct us hl=>match us,hl with | [_,_],_=>rfl))
theorem Fs:FnScope ["form","point","row","name","number"] ["form","point"] (defScope Dh):=⟨rfl,rfl,rfl,by decide +kernel,rfl,by decide +kernel,by decide +kernel⟩
theorem U6(T:Tx P w K mg base cs){a:Addr}{fd:FuncData}(F:FunD K "value_of" "value_of" (defArgs Dh) (defBody Dh) (defScope Dh) [] [] a fd):FnOk P w K mg base (L2N.CX P w) 1 a fd ["form","point"] (DA K 2 (AB 5 (Ju K cs))):=
 AL F Fs (fun cdv A outer s H E hr=>
  (An (AH (XS (by rfl) (by rfl) T.n_min (Ae (CH (Hg [("row",2)] (by rfl) Fs.nd (AK (Ac 0)) (fun s2 H2 C2 cl2 fp2=>(Ax 2 Fs.nd)) (fun s2 H2 C2 cl2 fp2=>CL) (fun s2 H2 C2 cl2 fp2=>(Mm (by rfl) (by rfl) T.n_max (Ae (CH (Hg [("name",3),("number",4)] (by rfl) Fs.nd (AK (Ac 2)) (fun s2 H2 C2 cl2 fp2=>(N6 (by rfl) (Dv (Ax 3 Fs.nd) (Dv (Ax 4 Fs.nd) KO)) (BN (BN GS)))) (fun s2 H2 C2 cl2 fp2=>CL) (fun s2 H2 C2 cl2 fp2=>(CG (A4 hr (Ac 1) (Ac 3)) (Ac 4))) (ok:=by exact Gk ["form","point","row","name","number"] rfl (by decide +kernel)))) Af))) (ok:=by exact blkOk_by (N:=["form","point","row","name","number"]) (sc:=defScope Dh) (by decide +kernel)))) Af)))))
theorem Vv(T:Tx P w K mg base cs):ClR P w K mg base "value_of" 1 (Gq K cs):=by
 obtain ⟨a,fd,F,hm⟩:=T.F_value_of
 exact B7 (U6 T F) hm F.kp (AG F (fun kV doc pm an cdv ct us hl=>match us,hl with | [_,_],_=>rfl))
theorem E8:FnScope ["self","point","name"] ["self","point"] (defScope Bo):=⟨rfl,rfl,rfl,by decide +kernel,rfl,by decide +kernel,by decide +kernel⟩
theorem OS(T:Tx P w K mg base cs){a:Addr}{fd:FuncData}(F:FunD K "__call__" "Map.__call__" (defArgs Bo) (defBody Bo) (defScope Bo) [] [] a fd):FnOk P w K mg base (L2N.CX P w) 2 a fd ["self","point"] (DA K 2 (AB 3 (FV K cs))):=
 AL F E8 (fun cdv A outer s H E hr=>
  (Ak (CD (passes_of (by rfl)) (by rfl) (AK (G3 (Fj T) (L2N.takes_of (by rfl) (by rfl) (by rfl) (by rfl)) hr (by decide) (Ac 0))) (Ax 2 E8.nd)
  (An (CQ (Gv hr (Ac 2) (Ac 1)) (An Ir) Bg)))
  (An (AH (kd [("name",2)] (by rfl) E8.nd (AK (G3 (Fj T) (L2N.takes_of (by rfl) (by rfl) (by rfl) (by rfl)) hr (by decide) (Ac 0))) (fun s2 H2 C2 cl2 fp2=>(Ax 2 E8.nd)) (fun s2 H2 C2 cl2 fp2=>CL) (fun s2 H2 C2 cl2 fp2=>(Ac 2)) (fun s2 H2 C2 cl2 fp2=>(Aq (Vv T) FD.takes0 hr (by decide) (by rfl) (Ae (A4 hr (EH (Br T) (Ac 0)) (Ac 2)) (Ae (Ac 1) Af)))) (ok:=by exact blkOk_by (N:=["self","point","name"]) (sc:=defScope Bo) (by decide +kernel)))))))
theorem OM(T:Tx P w K mg base cs):∃ a,Meth K cs.c_Map "__call__" a∧FnR P w K mg base (L2N.CX P w) 2 a (OI K (Dj K cs)):=by
 obtain ⟨a,fd,F,hm⟩:=T.F_Map___call__
 exact ⟨a,hm,IC (OS T F) (A5 F (fun kV doc pm an cdv ct us hl=>match us,hl with | [_,_],_=>rfl))⟩
theorem eV{X:Cx}{cs:Cs}(T:Tx X.prog X.w X.K X.mg X.base cs):CaC X.prog X.w X.K X.mg X.base 2 cs.c_Map (Dj X.K cs):=by
 obtain ⟨a,hm,F⟩:=OM T
 obtain ⟨a2,fd,h,hm2⟩:=T.F_Map___call__
 have e:=hm.at_.symm.trans hm2.at_
 cases e
 obtain ⟨oc,od,dV,kV,doc,pm,an,cdv,ct,osl,e1,e2,_⟩:=h.ex
 exact ⟨a,⟨hm.at_,hm.fn,by unfold PySem.W.fnIn; rw [e2]⟩,F⟩
theorem cao{X:Cx}{cs:Cs}(T:Tx X.prog X.w X.K X.mg X.base cs):∀ q∈CV X.K cs,CaC X.prog X.w X.K X.mg X.base 2 q.1 q.2:=fun q hq=>by
 obtain rfl:=List.mem_singleton.mp hq
 exact eV T
theorem RJ:FnScope ["self","other"] ["self","other"] (defScope Cq):=⟨rfl,rfl,rfl,by decide +kernel,rfl,by decide +kernel,by decide +kernel⟩
theorem RC(T:Tx P w K mg base cs){a:Addr}{fd:FuncData}(F:FunD K "__eq__" "Map.__eq__" (defArgs Cq) (defBody Cq) (defScope Cq) [] [] a fd):FnOk P w K mg base (L2N.CX P w) 1 a fd ["self","other"] (DA K 2 (AB 2 (Hx K cs))):=
 AL F RJ (fun cdv A outer s H E hr=>
  (An (AH (LM (hI (dq T) (by rfl) T.n_isinstance (Ae (Ac 1) (Ae (XY (v:=.ref cs.c_Map) (d:=.cls cs.c_Map) (by rfl) ⟨_,T.g_Map,rfl⟩ (fun _ _ _=>rfl)) Af))) (N3 (YV (dQ hr) (EH (Br T) (Ac 0)) (EH (Br T) (Ac 1))))))))
theorem RB(T:Tx P w K mg base cs):∃ a,Meth K cs.c_Map "__eq__" a∧FnR P w K mg base (L2N.CX P w) 1 a (OI K (D1 K cs)):=by
 obtain ⟨a,fd,F,hm⟩:=T.F_Map___eq__
 exact ⟨a,hm,IC (RC T F) (A5 F (fun kV doc pm an cdv ct us hl=>match us,hl with | [_,_],_=>rfl))⟩
theorem Ro{X:Cx}{cs:Cs}(T:Tx X.prog X.w X.K X.mg X.base cs):MeC X.prog X.w X.K X.mg X.base 1 cs.c_Map "__eq__" (D1 X.K cs):=⟨T.cl_Map,RB T⟩
theorem XW{X:Cx}{cs:Cs}(T:Tx X.prog X.w X.K X.mg X.base cs):∀ q∈Jl X.K cs,MeC X.prog X.w X.K X.mg X.base 1 q.1 "__eq__" q.2:=fun q hq=>by
 obtain rfl:=List.mem_singleton.mp hq
 exact Ro T
theorem Xw{X:Cx}{cs:Cs}(T:Tx X.prog X.w X.K X.mg X.base cs):∀ q∈Jl X.K cs,EqC X.K (Jl X.K cs) q.1:=fun q hq=>by
 simp only [List.mem_cons,List.not_mem_nil,or_false] at hq
 rcases hq with rfl
 ·exact ⟨fJ,fun q hq=>by
   obtain rfl:=List.mem_singleton.mp hq
   exact ZV⟩
theorem Ea:FnScope ["_law_rules_here","_law_others","_law_name","_law_row_here","_law_low"] ["_law_rules_here","_law_others"] (defScope Bt):=⟨rfl,rfl,rfl,by decide +kernel,rfl,by decide +kernel,by decide +kernel⟩
theorem Ox(T:Tx P w K mg base cs){a:Addr}{fd:FuncData}(F:FunD K "_law_lacking" "_law_lacking" (defArgs Bt) (defBody Bt) (defScope Bt) [] [] a fd):FnOk P w K mg base (L2N.CX P w) 2 a fd ["_law_rules_here","_law_others"] (DA K 2 (AB 5 (FH K cs))):=
 AL F Ea (fun cdv A outer s H E hr=>
  (Ak (HR 0 (passes_of (by rfl)) (by rfl) (Ax 2 Ea.nd)
  (An (CD (passes_of (by rfl)) (by rfl) (AK (A4 hr (Ac 1) (Ac 2))) (Ax 3 Ea.nd)
  (An (CQ (Ba (Ga (aJ (by rfl) (by rfl) T.n_any (Ae (CH (Hg [("_law_low",4)] (by rfl) Ea.nd (AK (A4 hr (Ac 0) (Ac 2))) (fun s2 H2 C2 cl2 fp2=>(Ax 4 Ea.nd)) (fun s2 H2 C2 cl2 fp2=>CL) (fun s2 H2 C2 cl2 fp2=>(Aq (IK T) FD.takes0 hr (by decide) (by rfl) (Ae (Ac 4) (Ae (Ac 3) Af)))) (ok:=by exact blkOk_by (N:=["_law_rules_here","_law_others","_law_name","_law_row_here","_law_low"]) (sc:=defScope Bt) (by decide +kernel)))) Af)))) (An (AH (F5 (Ae (Ac 2) (Ae (Ac 3) Af))))) Bg)))))
  (An (AH (F5 (Ae EJ (Ae bA Af)))))))
theorem ON(T:Tx P w K mg base cs):ClR P w K mg base "_law_lacking" 2 (Ep K cs):=by
 obtain ⟨a,fd,F,hm⟩:=T.F__law_lacking
 exact B7 (Ox T F) hm F.kp (AG F (fun kV doc pm an cdv ct us hl=>match us,hl with | [_,_],_=>rfl))
theorem Ey:FnScope ["_law_rules_here","_law_name","_law_row_here","_law_word_here"] ["_law_rules_here"] (defScope Dk):=⟨rfl,rfl,rfl,by decide +kernel,rfl,by decide +kernel,by decide +kernel⟩
theorem Vh(T:Tx P w K mg base cs){a:Addr}{fd:FuncData}(F:FunD K "_law_far" "_law_far" (defArgs Dk) (defBody Dk) (defScope Dk) [] [] a fd):FnOk P w K mg base (L2N.CX P w) 1 a fd ["_law_rules_here"] (DA K 1 (AB 4 (Jf K cs))):=
 AL F Ey (fun cdv A outer s H E hr=>
  (An (AH (CG Am (Mm (by rfl) (by rfl) T.n_max (Ae (CH (S8 0 [("_law_name",1)] (by rfl) Ey.nd (fun s2 H2 C2 cl2 fp2=>(Ax 1 Ey.nd)) (fun s2 H2 C2 cl2 fp2=>CL) (fun s2 H2 C2 cl2 fp2=>(Mm (by rfl) (by rfl) T.n_max (Ae (CH (Hg [("_law_row_here",2)] (by rfl) Ey.nd (AK (A4 hr (Ac 0) (Ac 1))) (fun s2 H2 C2 cl2 fp2=>(Ax 2 Ey.nd)) (fun s2 H2 C2 cl2 fp2=>CL) (fun s2 H2 C2 cl2 fp2=>(Mm (by rfl) (by rfl) T.n_max (Ae (CH (S8 2 [("_law_word_here",3)] (by rfl) Ey.nd (fun s2 H2 C2 cl2 fp2=>(Ax 3 Ey.nd)) (fun s2 H2 C2 cl2 fp2=>CL) (fun s2 H2 C2 cl2 fp2=>(iB (by rfl) T.n_abs (Ae (A4 hr (Ac 2) (Ac 3)) Af))) (ok:=by exact Gk ["_law_rules_here","_law_name","_law_row_here","_law_word_here"] rfl (by decide +kernel)))) Af))) (ok:=by exact Gk ["_law_rules_here","_law_name","_law_row_here","_law_word_here"] rfl (by decide +kernel)))) Af))) (ok:=by exact blkOk_by (N:=["_law_rules_here","_law_name","_law_row_here","_law_word_here"]) (sc:=defScope Dk) (by decide +kernel)))) Af))))))
theorem Oq(T:Tx P w K mg base cs):ClR P w K mg base "_law_far" 1 (Ca K cs):=by
 obtain ⟨a,fd,F,hm⟩:=T.F__law_far
 exact B7 (Vh T F) hm F.kp (AG F (fun kV doc pm an cdv ct us hl=>match us,hl with | [_],_=>rfl))
theorem Rr:FnScope ["_law_told","_law_due"] ["_law_told","_law_due"] (defScope Ce):=⟨rfl,rfl,rfl,by decide +kernel,rfl,by decide +kernel,by decide +kernel⟩
theorem RG(T:Tx P w K mg base cs){a:Addr}{fd:FuncData}(F:FunD K "_law_truth" "_law_truth" (defArgs Ce) (defBody Ce) (defScope Ce) [] [] a fd):FnOk P w K mg base (L2N.CX P w) 1 a fd ["_law_told","_law_due"] (DA K 2 (AB 2 (Hi K cs))):=
 AL F Rr (fun cdv A outer s H E hr=>
  (An (AH (LM (Jo (by rfl) T.n_isinstance (Ae (Ac 0) (Ae (Hs (by rfl) T.n_bool W3) Af))) (N3 (YV (IS (Sk hr)) (Ac 0) (Ac 1)))))))
theorem IF(T:Tx P w K mg base cs):ClR P w K mg base "_law_truth" 1 (D5 K cs):=by
 obtain ⟨a,fd,F,hm⟩:=T.F__law_truth
 exact B7 (RG T F) hm F.kp (AG F (fun kV doc pm an cdv ct us hl=>match us,hl with | [_,_],_=>rfl))
theorem DE:FnScope ["_law_told","_law_other","_law_rules_here","_law_others","_law_names_here","_law_name","_law_row_here","_law_below_here","_law_point","_law_word_here"] ["_law_told","_law_other","_law_rules_here","_law_others","_law_names_here"] (defScope Cn):=⟨rfl,rfl,rfl,by decide +kernel,rfl,by decide +kernel,by decide +kernel⟩
theorem Ru(T:Tx P w K mg base cs){a:Addr}{fd:FuncData}(F:FunD K "_law_order" "_law_order" (defArgs Cn) (defBody Cn) (defScope Cn) [] [] a fd):FnOk P w K mg base (L2N.CX P w) 10 a fd ["_law_told","_law_other","_law_rules_here","_law_others","_law_names_here"] (DA K 5 (AB 10 (Hy K cs))):=
 AL F DE (fun cdv A outer s H E hr=>
  (Ak (jO (Aq (ON T) (L2N.takes_of (by rfl) (by rfl) (by rfl) (by rfl)) hr (by decide) (by rfl) (Ae (Ac 2) (Ae (Ac 3) Af))) (N6 (by rfl) (Dv (Ax 5 DE.nd) (Dv (Ax 6 DE.nd) KO)) (BN (BN GS))))
  (Ak (Cy 7 DE.nd (YV (IS (Sk hr)) (Ac 5) EJ))
  (Ak (CQ (Q5 (Di (Ba (Ga (Aq (IF T) (L2N.takes_of (by rfl) (by rfl) (by rfl) (by rfl)) hr (by decide) (by rfl) (Ae (OV (Jd T) (L2N.takes_of (by rfl) (by rfl) (by rfl) (by rfl)) hr (by decide) (Ac 0) (Ae (Ac 1) Af)) (Ae (Ac 7) Af))))) (CF (Ba (Ga (Aq (IF T) (L2N.takes_of (by rfl) (by rfl) (by rfl) (by rfl)) hr (by decide) (by rfl) (Ae (TX (XW T) (Xw T) (L2N.takes_of (by rfl) (by rfl) (by rfl) (by rfl)) hr (by decide) (A1 "__or__" (Bf T) (Bc T) (L2N.takes_of (by rfl) (by rfl) (by rfl) (by rfl)) hr (by decide) (Ac 0) (Ac 1)) (Ac 1)) (Ae (Ac 7) Af)))))))) (An (AH Cu)) Bg)
  (Ak (CQ (Ba (Ga (Aq (IF T) (L2N.takes_of (by rfl) (by rfl) (by rfl) (by rfl)) hr (by decide) (by rfl) (Ae (TX (XW T) (Xw T) (L2N.takes_of (by rfl) (by rfl) (by rfl) (by rfl)) hr (by decide) (A1 "__and__" (AZ T) (AX T) (L2N.takes_of (by rfl) (by rfl) (by rfl) (by rfl)) hr (by decide) (Ac 0) (Ac 1)) (Ac 0)) (Ae (Ac 7) Af))))) (An (AH Cu)) Bg)
  (Ak (CQ (Ga (Ac 7)) (An (AH Cu)) Bg)
  (Ak (Et 8 DE.nd)
  (Ak (CD (passes_of (by rfl)) (by rfl) (AK (Ac 4)) (Ax 9 DE.nd)
  (An (Ei hr 8 (CG (Aq (Oq T) (L2N.takes_of (by rfl) (by rfl) (by rfl) (by rfl)) hr (by decide) (by rfl) (Ae (Ac 2) Af)) (Aq (Oq T) (L2N.takes_of (by rfl) (by rfl) (by rfl) (by rfl)) hr (by decide) (by rfl) (Ae (Ac 3) Af))) (Ac 9))))
  (Ak (HR 6 (passes_of (by rfl)) (by rfl) (Ax 9 DE.nd)
  (An (Ei hr 8 (LN Am (A4 hr (Ac 6) (Ac 9))) (Ac 9))))
  (An (AH (YV N5 (A4 hr (V1 (cao T) (L2N.takes_of (by rfl) (by rfl) (by rfl) (by rfl)) hr (by decide) (Ac 0) (Ae (Ac 8) Af)) (Ac 5)) (A4 hr (V1 (cao T) (L2N.takes_of (by rfl) (by rfl) (by rfl) (by rfl)) hr (by decide) (Ac 1) (Ae (Ac 8) Af)) (Ac 5))))))))))))))
theorem IB(T:Tx P w K mg base cs):ClR P w K mg base "_law_order" 10 (CN K cs):=by
 obtain ⟨a,fd,F,hm⟩:=T.F__law_order
 exact B7 (Ru T F) hm F.kp (AG F (fun kV doc pm an cdv ct us hl=>match us,hl with | [_,_,_,_,_],_=>rfl))
theorem DH:FnScope ["_law_rules_here","_law_point","_law_found","_law_name","_law_row_here","_law_word_here"] ["_law_rules_here","_law_point"] (defScope B0):=⟨rfl,rfl,rfl,by decide +kernel,rfl,by decide +kernel,by decide +kernel⟩
theorem Rp(T:Tx P w K mg base cs){a:Addr}{fd:FuncData}(F:FunD K "_law_value" "_law_value" (defArgs B0) (defBody B0) (defScope B0) [] [] a fd):FnOk P w K mg base (L2N.CX P w) 1 a fd ["_law_rules_here","_law_point"] (DA K 2 (AB 6 (Hw K cs))):=
 AL F DH (fun cdv A outer s H E hr=>
  (Ak (Et 2 DH.nd)
  (Ak (HR 0 (passes_of (by rfl)) (by rfl) (Ax 3 DH.nd)
  (An (Ei hr 2 (XS (by rfl) (by rfl) T.n_min (Ae (CH (Hg [("_law_row_here",4)] (by rfl) DH.nd (AK (A4 hr (Ac 0) (Ac 3))) (fun s2 H2 C2 cl2 fp2=>(Ax 4 DH.nd)) (fun s2 H2 C2 cl2 fp2=>CL) (fun s2 H2 C2 cl2 fp2=>(Mm (by rfl) (by rfl) T.n_max (Ae (CH (S8 4 [("_law_word_here",5)] (by rfl) DH.nd (fun s2 H2 C2 cl2 fp2=>(Ax 5 DH.nd)) (fun s2 H2 C2 cl2 fp2=>CL) (fun s2 H2 C2 cl2 fp2=>(CG (A4 hr (Ac 1) (Ac 5)) (A4 hr (Ac 4) (Ac 5)))) (ok:=by exact Gk ["_law_rules_here","_law_point","_law_found","_law_name","_law_row_here","_law_word_here"] rfl (by decide +kernel)))) Af))) (ok:=by exact blkOk_by (N:=["_law_rules_here","_law_point","_law_found","_law_name","_law_row_here","_law_word_here"]) (sc:=defScope B0) (by decide +kernel)))) Af)) (Ac 3))))
  (An (AH (Ac 2))))))
theorem Lx(T:Tx P w K mg base cs):ClR P w K mg base "_law_value" 1 (FR K cs):=by
 obtain ⟨a,fd,F,hm⟩:=T.F__law_value
 exact B7 (Rp T F) hm F.kp (AG F (fun kV doc pm an cdv ct us hl=>match us,hl with | [_,_],_=>rfl))
theorem EV:FnScope ["_law_told","_law_point","_law_due","_law_kept","_law_value_here","_law_name"] ["_law_told","_law_point","_law_due"] (defScope B4):=⟨rfl,rfl,rfl,by decide +kernel,rfl,by decide +kernel,by decide +kernel⟩
theorem Rj(T:Tx P w K mg base cs){a:Addr}{fd:FuncData}(F:FunD K "_law_gives" "_law_gives" (defArgs B4) (defBody B4) (defScope B4) [] [] a fd):FnOk P w K mg base (L2N.CX P w) 3 a fd ["_law_told","_law_point","_law_due"] (DA K 3 (AB 6 (Hq K cs))):=
 AL F EV (fun cdv A outer s H E hr=>
  (Ak (Cy 3 EV.nd (CH (Pn (by rfl) (Ac 1) (by rfl) T.n_list)))
  (Ak (Cy 4 EV.nd (V1 (cao T) (L2N.takes_of (by rfl) (by rfl) (by rfl) (by rfl)) hr (by decide) (Ac 0) (Ae (Ac 1) Af)))
  (Ak (CQ (Q5 (Di (Ba (Ga (Jo (by rfl) T.n_isinstance (Ae (Ac 4) (Ae (Hs (by rfl) T.n_dict dS) Af))))) (Di (F9 (R8 (Sk hr)) (CH (HW (by rfl) (by rfl) T.n_list (Ae (Ac 4) Af))) (CH (G2 hr (by rfl) T.n_sorted (Ae (CH (HW (by rfl) (by rfl) T.n_list (Ae (Ac 2) Af))) Af)))) (CF (F9 (R8 (Sk hr)) (CH (Pn (by rfl) (Ac 1) (by rfl) T.n_list)) (Ac 3)))))) (An (AH Cu)) Bg)
  (An (AH (jz (by rfl) (by rfl) T.n_all (Ae (CH (S8 2 [("_law_name",5)] (by rfl) EV.nd (fun s2 H2 C2 cl2 fp2=>(Ax 5 EV.nd)) (fun s2 H2 C2 cl2 fp2=>CL) (fun s2 H2 C2 cl2 fp2=>(LM (Aq (JJ T) FD.takes0 hr (by decide) (by rfl) (Ae (A4 hr (Ac 4) (Ac 5)) Af)) (N3 (YV (IS (Sk hr)) (A4 hr (Ac 4) (Ac 5)) (A4 hr (Ac 2) (Ac 5)))))) (ok:=by exact blkOk_by (N:=["_law_told","_law_point","_law_due","_law_kept","_law_value_here","_law_name"]) (sc:=defScope B4) (by decide +kernel)))) Af))))))))
theorem Lu(T:Tx P w K mg base cs):ClR P w K mg base "_law_gives" 3 (FY K cs):=by
 obtain ⟨a,fd,F,hm⟩:=T.F__law_gives
 exact B7 (Rj T F) hm F.kp (AG F (fun kV doc pm an cdv ct us hl=>match us,hl with | [_,_,_],_=>rfl))
theorem EI:FnScope ["_law_box_here","_law_names_here","_law_point","_law_name","#"] ["_law_box_here","_law_names_here"] (defScope A6):=⟨rfl,rfl,rfl,by decide +kernel,rfl,by decide +kernel,by decide +kernel⟩
theorem Lq(T:Tx P w K mg base cs){a:Addr}{fd:FuncData}(F:FunD K "_law_drawn_point" "_law_drawn_point" (defArgs A6) (defBody A6) (defScope A6) [] [] a fd):FnOk P w K mg base (L2N.CX P w) 2 a fd ["_law_box_here","_law_names_here"] (NJ K 2 (runM 4 (D8 K cs))):=
 GO F EI rfl (by decide) (fun cdv A outer s H E hr=>
  (Ak (Et 2 EI.nd)
  (Ak (CD (passes_of (by rfl)) (by rfl) (AK (CH (jI (Ac 1)))) (Ax 3 EI.nd)
  (An (Xq (S:=[4]) hr 2 (h7 (A3 (n:=4) (AU T) (L2N.takes_of (by rfl) (by rfl) (by rfl) (by rfl)) hr (by decide) (by rfl) (CU (Ae (Ac 0) (Ae Am Af)))) (I7 Am)) (Ac 3))))
  (An (AH (Ac 2))))))
theorem Lp(T:Tx P w K mg base cs):ClM P w K mg base "_law_drawn_point" 2 (D0 K cs):=by
 obtain ⟨a,fd,F,hm⟩:=T.F__law_drawn_point
 exact Jw (Lq T F) hm F.kp (A5 F (fun kV doc pm an cdv ct us hl=>match us,hl with | [_,_],_=>rfl))
theorem Em:FnScope ["_law_rules_here","_law_others","_law_found","_law_name","_law_row_here"] ["_law_rules_here","_law_others"] (defScope BB):=⟨rfl,rfl,rfl,by decide +kernel,rfl,by decide +kernel,by decide +kernel⟩
theorem QW(T:Tx P w K mg base cs){a:Addr}{fd:FuncData}(F:FunD K "_law_either" "_law_either" (defArgs BB) (defBody BB) (defScope BB) [] [] a fd):FnOk P w K mg base (L2N.CX P w) 1 a fd ["_law_rules_here","_law_others"] (DA K 2 (AB 5 (Gz K cs))):=
 AL F Em (fun cdv A outer s H E hr=>
  (Ak (Et 2 Em.nd)
  (Ak (HR 0 (passes_of (by rfl)) (by rfl) (Ax 3 Em.nd)
  (An (Ei hr 2 (CH (Hg [("_law_row_here",4)] (by rfl) Em.nd (AK (CG (A4 hr (Ac 0) (Ac 3)) (A4 hr (Ac 1) (Ac 3)))) (fun s2 H2 C2 cl2 fp2=>(Ax 4 Em.nd)) (fun s2 H2 C2 cl2 fp2=>CL) (fun s2 H2 C2 cl2 fp2=>(Vu (by rfl) T.n_dict (Ae (Ac 4) Af))) (ok:=by exact blkOk_by (N:=["_law_rules_here","_law_others","_law_found","_law_name","_law_row_here"]) (sc:=defScope BB) (by decide +kernel)))) (Ac 3))))
  (An (AH (Ac 2))))))
theorem Pr(T:Tx P w K mg base cs):ClR P w K mg base "_law_either" 1 (GJ K cs):=by
 obtain ⟨a,fd,F,hm⟩:=T.F__law_either
 exact B7 (QW T F) hm F.kp (AG F (fun kV doc pm an cdv ct us hl=>match us,hl with | [_,_],_=>rfl))
theorem F7:FnScope ["_law_row_here","_law_other","_law_shift","_law_found","_law_name","_law_value_here"] ["_law_row_here","_law_other","_law_shift"] (defScope BS):=⟨rfl,rfl,rfl,by decide +kernel,rfl,by decide +kernel,by decide +kernel⟩
theorem QS(T:Tx P w K mg base cs){a:Addr}{fd:FuncData}(F:FunD K "_law_joined" "_law_joined" (defArgs BS) (defBody BS) (defScope BS) [] [] a fd):FnOk P w K mg base (L2N.CX P w) 1 a fd ["_law_row_here","_law_other","_law_shift"] (DA K 3 (AB 6 (GH K cs))):=
 AL F F7 (fun cdv A outer s H E hr=>
  (Ak (Z2 3 (by rfl) T.n_dict (Ae (Ac 0) Af) F7.nd)
  (Ak (HR 1 (passes_of (by rfl)) (by rfl) (Ax 4 F7.nd)
  (Ak (Cy 5 F7.nd (CG (A4 hr (Ac 1) (Ac 4)) (Ac 2)))
  (An (CQ (Q5 (Di (Gv hr (Ac 4) (Ac 3)) (CF (F9 gS (A4 hr (Ac 3) (Ac 4)) (Ac 5))))) (An (Ei hr 3 (Ac 5) (Ac 4))) Bg))))
  (An (AH (Ac 3))))))
theorem QC(T:Tx P w K mg base cs):ClR P w K mg base "_law_joined" 1 (CT K cs):=by
 obtain ⟨a,fd,F,hm⟩:=T.F__law_joined
 exact B7 (QS T F) hm F.kp (AG F (fun kV doc pm an cdv ct us hl=>match us,hl with | [_,_,_],_=>rfl))
theorem Dx:FnScope ["_law_rules_here","_law_others","_law_found","_law_name","_law_rows","_law_row_here","_law_other"] ["_law_rules_here","_law_others"] (defScope Cz):=⟨rfl,rfl,rfl,by decide +kernel,rfl,by decide +kernel,by decide +kernel⟩
theorem S9(T:Tx P w K mg base cs){a:Addr}{fd:FuncData}(F:FunD K "_law_both" "_law_both" (defArgs Cz) (defBody Cz) (defScope Cz) [] [] a fd):FnOk P w K mg base (L2N.CX P w) 2 a fd ["_law_rules_here","_law_others"] (DA K 2 (AB 7 (Ic K cs))):=
 AL F Dx (fun cdv A outer s H E hr=>
  (Ak (Et 2 Dx.nd)
  (Ak (HR 0 (passes_of (by rfl)) (by rfl) (Ax 3 Dx.nd)
  (Ak (Cy 4 Dx.nd (CH (FN Af)))
  (Ak (CD (passes_of (by rfl)) (by rfl) (AK (A4 hr (Ac 0) (Ac 3))) (Ax 5 Dx.nd)
  (An (Cy 4 Dx.nd (CG (Ac 4) (CH (Hg [("_law_other",6)] (by rfl) Dx.nd (AK (A4 hr (Ac 1) (Ac 3))) (fun s2 H2 C2 cl2 fp2=>(Ax 6 Dx.nd)) (fun s2 H2 C2 cl2 fp2=>CL) (fun s2 H2 C2 cl2 fp2=>(Aq (QC T) FD.takes0 hr (by decide) (by rfl) (Ae (Ac 5) (Ae (Ac 6) (Ae Am Af))))) (ok:=by exact blkOk_by (N:=["_law_rules_here","_law_others","_law_found","_law_name","_law_rows","_law_row_here","_law_other"]) (sc:=defScope Cz) (by decide +kernel))))))))
  (An (Ei hr 2 (Ac 4) (Ac 3))))))
  (An (AH (Ac 2))))))
theorem SO(T:Tx P w K mg base cs):ClR P w K mg base "_law_both" 2 (Ia K cs):=by
 obtain ⟨a,fd,F,hm⟩:=T.F__law_both
 exact B7 (S9 T F) hm F.kp (AG F (fun kV doc pm an cdv ct us hl=>match us,hl with | [_,_],_=>rfl))
theorem B5:FnScope ["_law_told","_law_other","_law_rules_here","_law_others","_law_box_here","_law_names_here","_law_point","_law_one","_law_two","_law_high","_law_low","_law_name","#"] ["_law_told","_law_other","_law_rules_here","_law_others","_law_box_here","_law_names_here"] (defScope Bi):=⟨rfl,rfl,rfl,by decide +kernel,rfl,by decide +kernel,by decide +kernel⟩
theorem Nb(T:Tx P w K mg base cs){a:Addr}{fd:FuncData}(F:FunD K "_law_pointwise" "_law_pointwise" (defArgs Bi) (defBody Bi) (defScope Bi) [] [] a fd):FnOk P w K mg base (L2N.CX P w) 10 a fd ["_law_told","_law_other","_law_rules_here","_law_others","_law_box_here","_law_names_here"] (NJ K 6 (runM 12 (EB K cs))):=
 GO F B5 rfl (by decide) (fun cdv A outer s H E hr=>
  (Ak (CQ (Ba (Ga (Aq (E4 T) (L2N.takes_of (by rfl) (by rfl) (by rfl) (by rfl)) hr (by decide) (by rfl) (Ae (A1 "__or__" (Bf T) (Bc T) (L2N.takes_of (by rfl) (by rfl) (by rfl) (by rfl)) hr (by decide) (Ac 0) (Ac 1)) (Ae (Aq (SO T) (L2N.takes_of (by rfl) (by rfl) (by rfl) (by rfl)) hr (by decide) (by rfl) (Ae (Ac 2) (Ae (Ac 3) Af))) Af))))) (An (AH Cu)) Bg)
  (Ak (CQ (Ba (Ga (Aq (E4 T) (L2N.takes_of (by rfl) (by rfl) (by rfl) (by rfl)) hr (by decide) (by rfl) (Ae (A1 "__and__" (AZ T) (AX T) (L2N.takes_of (by rfl) (by rfl) (by rfl) (by rfl)) hr (by decide) (Ac 0) (Ac 1)) (Ae (Aq (Pr T) (L2N.takes_of (by rfl) (by rfl) (by rfl) (by rfl)) hr (by decide) (by rfl) (Ae (Ac 2) (Ae (Ac 3) Af))) Af))))) (An (AH Cu)) Bg)
  (Ak (Eh (S:=[12]) 6 B5.nd (A3 (n:=12) (Lp T) (L2N.takes_of (by rfl) (by rfl) (by rfl) (by rfl)) hr (by decide) (by rfl) (CU (Ae (Ac 4) (Ae (Ac 5) Af)))))
  (Ak (Cy 7 B5.nd (Aq (Lx T) (L2N.takes_of (by rfl) (by rfl) (by rfl) (by rfl)) hr (by decide) (by rfl) (Ae (Ac 2) (Ae (Ac 6) Af))))
  (Ak (Cy 8 B5.nd (Aq (Lx T) (L2N.takes_of (by rfl) (by rfl) (by rfl) (by rfl)) hr (by decide) (by rfl) (Ae (Ac 3) (Ae (Ac 6) Af))))
  (Ak (Et 9 B5.nd)
  (Ak (Et 10 B5.nd)
  (Ak (CD (passes_of (by rfl)) (by rfl) (AK (Ac 5)) (Ax 11 B5.nd)
  (Ak (Ei hr 9 (cP (by rfl) (by rfl) T.n_max (Ae (A4 hr (Ac 7) (Ac 11)) (Ae (A4 hr (Ac 8) (Ac 11)) Af))) (Ac 11))
  (An (Ei hr 10 (c5 (by rfl) (by rfl) T.n_min (Ae (A4 hr (Ac 7) (Ac 11)) (Ae (A4 hr (Ac 8) (Ac 11)) Af))) (Ac 11)))))
  (An (AH (LM (Aq (Lu T) (L2N.takes_of (by rfl) (by rfl) (by rfl) (by rfl)) hr (by decide) (by rfl) (Ae (A1 "__or__" (Bf T) (Bc T) (L2N.takes_of (by rfl) (by rfl) (by rfl) (by rfl)) hr (by decide) (Ac 0) (Ac 1)) (Ae (Ac 6) (Ae (Ac 9) Af)))) (N3 (Aq (Lu T) (L2N.takes_of (by rfl) (by rfl) (by rfl) (by rfl)) hr (by decide) (by rfl) (Ae (A1 "__and__" (AZ T) (AX T) (L2N.takes_of (by rfl) (by rfl) (by rfl) (by rfl)) hr (by decide) (Ac 0) (Ac 1)) (Ae (Ac 6) (Ae (Ac 10) Af)))))))))))))))))
theorem Md(T:Tx P w K mg base cs):ClM P w K mg base "_law_pointwise" 10 (DQ K cs):=by
 obtain ⟨a,fd,F,hm⟩:=T.F__law_pointwise
 exact Jw (Nb T F) hm F.kp (A5 F (fun kV doc pm an cdv ct us hl=>match us,hl with | [_,_,_,_,_,_],_=>rfl))
theorem OE:FnScope ["_law_one","_law_two","_law_three"] ["_law_one","_law_two","_law_three"] (defScope BE):=⟨rfl,rfl,rfl,by decide +kernel,rfl,by decide +kernel,by decide +kernel⟩
theorem Oz(T:Tx P w K mg base cs){a:Addr}{fd:FuncData}(F:FunD K "_law_lattice" "_law_lattice" (defArgs BE) (defBody BE) (defScope BE) [] [] a fd):FnOk P w K mg base (L2N.CX P w) 10 a fd ["_law_one","_law_two","_law_three"] (DA K 3 (AB 3 (FG K cs))):=
 AL F OE (fun cdv A outer s H E hr=>
  (Ak (CQ (Q5 (Di (Ba (IJ (XW T) (Xw T) (L2N.takes_of (by rfl) (by rfl) (by rfl) (by rfl)) hr (by decide) (A1 "__or__" (Bf T) (Bc T) (L2N.takes_of (by rfl) (by rfl) (by rfl) (by rfl)) hr (by decide) (Ac 0) (Ac 1)) (A1 "__or__" (Bf T) (Bc T) (L2N.takes_of (by rfl) (by rfl) (by rfl) (by rfl)) hr (by decide) (Ac 1) (Ac 0)))) (CF (Ba (IJ (XW T) (Xw T) (L2N.takes_of (by rfl) (by rfl) (by rfl) (by rfl)) hr (by decide) (A1 "__and__" (AZ T) (AX T) (L2N.takes_of (by rfl) (by rfl) (by rfl) (by rfl)) hr (by decide) (Ac 0) (Ac 1)) (A1 "__and__" (AZ T) (AX T) (L2N.takes_of (by rfl) (by rfl) (by rfl) (by rfl)) hr (by decide) (Ac 1) (Ac 0))))))) (An (AH Cu)) Bg)
  (Ak (CQ (Q5 (Di (Ba (IJ (XW T) (Xw T) (L2N.takes_of (by rfl) (by rfl) (by rfl) (by rfl)) hr (by decide) (A1 "__or__" (Bf T) (Bc T) (L2N.takes_of (by rfl) (by rfl) (by rfl) (by rfl)) hr (by decide) (Ac 0) (Ac 0)) (Ac 0))) (CF (Ba (IJ (XW T) (Xw T) (L2N.takes_of (by rfl) (by rfl) (by rfl) (by rfl)) hr (by decide) (A1 "__and__" (AZ T) (AX T) (L2N.takes_of (by rfl) (by rfl) (by rfl) (by rfl)) hr (by decide) (Ac 0) (Ac 0)) (Ac 0)))))) (An (AH Cu)) Bg)
  (Ak (CQ (Q5 (Di (Ba (IJ (XW T) (Xw T) (L2N.takes_of (by rfl) (by rfl) (by rfl) (by rfl)) hr (by decide) (A1 "__or__" (Bf T) (Bc T) (L2N.takes_of (by rfl) (by rfl) (by rfl) (by rfl)) hr (by decide) (Ac 0) (A1 "__and__" (AZ T) (AX T) (L2N.takes_of (by rfl) (by rfl) (by rfl) (by rfl)) hr (by decide) (Ac 0) (Ac 1))) (Ac 0))) (CF (Ba (IJ (XW T) (Xw T) (L2N.takes_of (by rfl) (by rfl) (by rfl) (by rfl)) hr (by decide) (A1 "__and__" (AZ T) (AX T) (L2N.takes_of (by rfl) (by rfl) (by rfl) (by rfl)) hr (by decide) (Ac 0) (A1 "__or__" (Bf T) (Bc T) (L2N.takes_of (by rfl) (by rfl) (by rfl) (by rfl)) hr (by decide) (Ac 0) (Ac 1))) (Ac 0)))))) (An (AH Cu)) Bg)
  (Ak (CQ (Q5 (Di (Ba (IJ (XW T) (Xw T) (L2N.takes_of (by rfl) (by rfl) (by rfl) (by rfl)) hr (by decide) (A1 "__or__" (Bf T) (Bc T) (L2N.takes_of (by rfl) (by rfl) (by rfl) (by rfl)) hr (by decide) (A1 "__or__" (Bf T) (Bc T) (L2N.takes_of (by rfl) (by rfl) (by rfl) (by rfl)) hr (by decide) (Ac 0) (Ac 1)) (Ac 2)) (A1 "__or__" (Bf T) (Bc T) (L2N.takes_of (by rfl) (by rfl) (by rfl) (by rfl)) hr (by decide) (Ac 0) (A1 "__or__" (Bf T) (Bc T) (L2N.takes_of (by rfl) (by rfl) (by rfl) (by rfl)) hr (by decide) (Ac 1) (Ac 2))))) (CF (Ba (IJ (XW T) (Xw T) (L2N.takes_of (by rfl) (by rfl) (by rfl) (by rfl)) hr (by decide) (A1 "__and__" (AZ T) (AX T) (L2N.takes_of (by rfl) (by rfl) (by rfl) (by rfl)) hr (by decide) (A1 "__and__" (AZ T) (AX T) (L2N.takes_of (by rfl) (by rfl) (by rfl) (by rfl)) hr (by decide) (Ac 0) (Ac 1)) (Ac 2)) (A1 "__and__" (AZ T) (AX T) (L2N.takes_of (by rfl) (by rfl) (by rfl) (by rfl)) hr (by decide) (Ac 0) (A1 "__and__" (AZ T) (AX T) (L2N.takes_of (by rfl) (by rfl) (by rfl) (by rfl)) hr (by decide) (Ac 1) (Ac 2)))))))) (An (AH Cu)) Bg)
  (Ak (CQ (Ba (IJ (XW T) (Xw T) (L2N.takes_of (by rfl) (by rfl) (by rfl) (by rfl)) hr (by decide) (A1 "__and__" (AZ T) (AX T) (L2N.takes_of (by rfl) (by rfl) (by rfl) (by rfl)) hr (by decide) (Ac 0) (A1 "__or__" (Bf T) (Bc T) (L2N.takes_of (by rfl) (by rfl) (by rfl) (by rfl)) hr (by decide) (Ac 1) (Ac 2))) (A1 "__or__" (Bf T) (Bc T) (L2N.takes_of (by rfl) (by rfl) (by rfl) (by rfl)) hr (by decide) (A1 "__and__" (AZ T) (AX T) (L2N.takes_of (by rfl) (by rfl) (by rfl) (by rfl)) hr (by decide) (Ac 0) (Ac 1)) (A1 "__and__" (AZ T) (AX T) (L2N.takes_of (by rfl) (by rfl) (by rfl) (by rfl)) hr (by decide) (Ac 0) (Ac 2))))) (An (AH Cu)) Bg)
  (An (AH (TX (XW T) (Xw T) (L2N.takes_of (by rfl) (by rfl) (by rfl) (by rfl)) hr (by decide) (A1 "__or__" (Bf T) (Bc T) (L2N.takes_of (by rfl) (by rfl) (by rfl) (by rfl)) hr (by decide) (Ac 0) (A1 "__and__" (AZ T) (AX T) (L2N.takes_of (by rfl) (by rfl) (by rfl) (by rfl)) hr (by decide) (Ac 1) (Ac 2))) (A1 "__and__" (AZ T) (AX T) (L2N.takes_of (by rfl) (by rfl) (by rfl) (by rfl)) hr (by decide) (A1 "__or__" (Bf T) (Bc T) (L2N.takes_of (by rfl) (by rfl) (by rfl) (by rfl)) hr (by decide) (Ac 0) (Ac 1)) (A1 "__or__" (Bf T) (Bc T) (L2N.takes_of (by rfl) (by rfl) (by rfl) (by rfl)) hr (by decide) (Ac 0) (Ac 2))))))))))))
theorem OG(T:Tx P w K mg base cs):ClR P w K mg base "_law_lattice" 10 (Eo K cs):=by
 obtain ⟨a,fd,F,hm⟩:=T.F__law_lattice
 exact B7 (Oz T F) hm F.kp (AG F (fun kV doc pm an cdv ct us hl=>match us,hl with | [_,_,_],_=>rfl))
theorem Gj:FnScope ["form","k","row","name","number"] ["form","k"] (defScope DP):=⟨rfl,rfl,rfl,by decide +kernel,rfl,by decide +kernel,by decide +kernel⟩
theorem Wf(T:Tx P w K mg base cs){a:Addr}{fd:FuncData}(F:FunD K "shifted" "shifted" (defArgs DP) (defBody DP) (defScope DP) [] [] a fd):FnOk P w K mg base (L2N.CX P w) 1 a fd ["form","k"] (DA K 2 (AB 5 (K5 K cs))):=
 AL F Gj (fun cdv A outer s H E hr=>
  (An (AH (O3 (by rfl) T.n_tuple (Ae (CH (Hg [("row",2)] (by rfl) Gj.nd (AK (Ac 0)) (fun s2 H2 C2 cl2 fp2=>(Ax 2 Gj.nd)) (fun s2 H2 C2 cl2 fp2=>CL) (fun s2 H2 C2 cl2 fp2=>(P8 (by rfl) T.n_tuple (Ae (CH (Hg [("name",3),("number",4)] (by rfl) Gj.nd (AK (Ac 2)) (fun s2 H2 C2 cl2 fp2=>(N6 (by rfl) (Dv (Ax 3 Gj.nd) (Dv (Ax 4 Gj.nd) KO)) (BN (BN GS)))) (fun s2 H2 C2 cl2 fp2=>CL) (fun s2 H2 C2 cl2 fp2=>(F5 (Ae (Ac 3) (Ae (CG (Ac 4) (Ac 1)) Af)))) (ok:=by exact Gk ["form","k","row","name","number"] rfl (by decide +kernel)))) Af))) (ok:=by exact blkOk_by (N:=["form","k","row","name","number"]) (sc:=defScope DP) (by decide +kernel)))) Af)))))
theorem VQ(T:Tx P w K mg base cs):ClR P w K mg base "shifted" 1 (HA K cs):=by
 obtain ⟨a,fd,F,hm⟩:=T.F_shifted
 exact B7 (Wf T F) hm F.kp (AG F (fun kV doc pm an cdv ct us hl=>match us,hl with | [_,_],_=>rfl))
theorem ET:FnScope ["row","forms","result","name","number"] ["row","forms"] (defScope Co):=⟨rfl,rfl,rfl,by decide +kernel,rfl,by decide +kernel,by decide +kernel⟩
theorem Q8(T:Tx P w K mg base cs){a:Addr}{fd:FuncData}(F:FunD K "placed_row" "placed_row" (defArgs Co) (defBody Co) (defScope Co) [] [] a fd):FnOk P w K mg base (L2N.CX P w) 5 a fd ["row","forms"] (DA K 2 (AB 5 (Ho K cs))):=
 AL F ET (fun cdv A outer s H E hr=>
  (Ak (Cy 2 ET.nd (F5 (Ae (i9 Af) Af)))
  (Ak (CD (passes_of (by rfl)) (by rfl) (AK (Ac 0)) (N6 (by rfl) (Dv (Ax 3 ET.nd) (Dv (Ax 4 ET.nd) KO)) (BN (BN GS)))
  (An (Cy 2 ET.nd (Aq (R6 T) (L2N.takes_of (by rfl) (by rfl) (by rfl) (by rfl)) hr (by decide) (by rfl) (Ae (Ac 2) (Ae (Aq (VQ T) (L2N.takes_of (by rfl) (by rfl) (by rfl) (by rfl)) hr (by decide) (by rfl) (Ae (A4 hr (Ac 1) (Ac 3)) (Ae (Ac 4) Af))) Af))))))
  (An (AH (Ac 2))))))
theorem Rg(T:Tx P w K mg base cs):ClR P w K mg base "placed_row" 5 (EE K cs):=by
 obtain ⟨a,fd,F,hm⟩:=T.F_placed_row
 exact B7 (Q8 T F) hm F.kp (AG F (fun kV doc pm an cdv ct us hl=>match us,hl with | [_,_],_=>rfl))
theorem K2:FnScope ["form","forms","result","row"] ["form","forms"] (defScope E5):=⟨rfl,rfl,rfl,by decide +kernel,rfl,by decide +kernel,by decide +kernel⟩
theorem Yw(T:Tx P w K mg base cs){a:Addr}{fd:FuncData}(F:FunD K "placed" "placed" (defArgs E5) (defBody E5) (defScope E5) [] [] a fd):FnOk P w K mg base (L2N.CX P w) 6 a fd ["form","forms"] (DA K 2 (AB 4 (Mg K cs))):=
 AL F K2 (fun cdv A outer s H E hr=>
  (Ak (Cy 2 K2.nd (F5 Af))
  (Ak (CD (passes_of (by rfl)) (by rfl) (AK (Ac 0)) (Ax 3 K2.nd)
  (An (Cy 2 K2.nd (Aq (Sd T) (L2N.takes_of (by rfl) (by rfl) (by rfl) (by rfl)) hr (by decide) (by rfl) (Ae (Ac 2) (Ae (Aq (Rg T) (L2N.takes_of (by rfl) (by rfl) (by rfl) (by rfl)) hr (by decide) (by rfl) (Ae (Ac 3) (Ae (Ac 1) Af))) Af))))))
  (An (AH (Ac 2))))))
theorem Zr(T:Tx P w K mg base cs):ClR P w K mg base "placed" 6 (J8 K cs):=by
 obtain ⟨a,fd,F,hm⟩:=T.F_placed
 exact B7 (Yw T F) hm F.kp (AG F (fun kV doc pm an cdv ct us hl=>match us,hl with | [_,_],_=>rfl))
theorem Ka:FnScope ["outer","inner","forms","name"] ["outer","inner"] (defScope DC):=⟨rfl,rfl,rfl,by decide +kernel,rfl,by decide +kernel,by decide +kernel⟩
theorem US(T:Tx P w K mg base cs){a:Addr}{fd:FuncData}(F:FunD K "composed" "composed" (defArgs DC) (defBody DC) (defScope DC) [] [] a fd):FnOk P w K mg base (L2N.CX P w) 7 a fd ["outer","inner"] (DA K 2 (AB 4 (Jt K cs))):=
 AL F Ka (fun cdv A outer s H E hr=>
  (Ak (Et 2 Ka.nd)
  (Ak (HR 0 (passes_of (by rfl)) (by rfl) (Ax 3 Ka.nd)
  (An (Ei hr 2 (Aq (Zr T) (L2N.takes_of (by rfl) (by rfl) (by rfl) (by rfl)) hr (by decide) (by rfl) (Ae (A4 hr (Ac 0) (Ac 3)) (Ae (Ac 1) Af))) (Ac 3))))
  (An (AH (Ac 2))))))
theorem Uw(T:Tx P w K mg base cs):ClR P w K mg base "composed" 7 (Jr K cs):=by
 obtain ⟨a,fd,F,hm⟩:=T.F_composed
 exact B7 (US T F) hm F.kp (AG F (fun kV doc pm an cdv ct us hl=>match us,hl with | [_,_],_=>rfl))
theorem QJ:FnScope ["self","other"] ["self","other"] (defScope BP):=⟨rfl,rfl,rfl,by decide +kernel,rfl,by decide +kernel,by decide +kernel⟩
theorem Qq(T:Tx P w K mg base cs){a:Addr}{fd:FuncData}(F:FunD K "__mul__" "Map.__mul__" (defArgs BP) (defBody BP) (defScope BP) [] [] a fd):FnOk P w K mg base (L2N.CX P w) 9 a fd ["self","other"] (DA K 2 (AB 2 (Gy K cs))):=
 AL F QJ (fun cdv A outer s H E hr=>
  (Ak (LJ (Aq (GB T) (L2N.takes_of (by rfl) (by rfl) (by rfl) (by rfl)) hr (by decide) (by rfl) (Ae (Ac 0) (Ae (Ac 1) Af))))
  (An (AH (Aq (NP T) (L2N.takes_of (by rfl) (by rfl) (by rfl) (by rfl)) hr (by decide) (by rfl) (Ae (Aq (Uw T) (L2N.takes_of (by rfl) (by rfl) (by rfl) (by rfl)) hr (by decide) (by rfl) (Ae (EH (Br T) (Ac 0)) (Ae (EH (Br T) (Ac 1)) Af))) Af))))))
theorem Py(T:Tx P w K mg base cs):∃ a,Meth K cs.c_Map "__mul__" a∧FnR P w K mg base (L2N.CX P w) 9 a (OI K (ES K cs)):=by
 obtain ⟨a,fd,F,hm⟩:=T.F_Map___mul__
 exact ⟨a,hm,IC (Qq T F) (A5 F (fun kV doc pm an cdv ct us hl=>match us,hl with | [_,_],_=>rfl))⟩
theorem Qp{X:Cx}{cs:Cs}(T:Tx X.prog X.w X.K X.mg X.base cs):MeC X.prog X.w X.K X.mg X.base 9 cs.c_Map "__mul__" (ES X.K cs):=⟨T.cl_Map,Py T⟩
theorem Fv{X:Cx}{cs:Cs}(T:Tx X.prog X.w X.K X.mg X.base cs):∀ q∈BK X.K cs,MeC X.prog X.w X.K X.mg X.base 9 q.1 "__mul__" q.2:=fun q hq=>by
 obtain rfl:=List.mem_singleton.mp hq
 exact Qp T
theorem Fq{X:Cx}{cs:Cs}(T:Tx X.prog X.w X.K X.mg X.base cs):∀ q∈BK X.K cs,PySem.W.selfFirst X.K q.1=true:=fun q hq=>by
 obtain rfl:=List.mem_singleton.mp hq
 exact T.sf_Map
theorem KC:FnScope ["_law_one","_law_two","_law_three"] ["_law_one","_law_two","_law_three"] (defScope A2):=⟨rfl,rfl,rfl,by decide +kernel,rfl,by decide +kernel,by decide +kernel⟩
theorem J5(T:Tx P w K mg base cs){a:Addr}{fd:FuncData}(F:FunD K "_law_on_the_right" "_law_on_the_right" (defArgs A2) (defBody A2) (defScope A2) [] [] a fd):FnOk P w K mg base (L2N.CX P w) 10 a fd ["_law_one","_law_two","_law_three"] (DA K 3 (AB 3 (DO K cs))):=
 AL F KC (fun cdv A outer s H E hr=>
  (Ak (CQ (Ba (IJ (XW T) (Xw T) (L2N.takes_of (by rfl) (by rfl) (by rfl) (by rfl)) hr (by decide) (A1 "__mul__" (Fv T) (Fq T) (L2N.takes_of (by rfl) (by rfl) (by rfl) (by rfl)) hr (by decide) (A1 "__or__" (Bf T) (Bc T) (L2N.takes_of (by rfl) (by rfl) (by rfl) (by rfl)) hr (by decide) (Ac 0) (Ac 1)) (Ac 2)) (A1 "__or__" (Bf T) (Bc T) (L2N.takes_of (by rfl) (by rfl) (by rfl) (by rfl)) hr (by decide) (A1 "__mul__" (Fv T) (Fq T) (L2N.takes_of (by rfl) (by rfl) (by rfl) (by rfl)) hr (by decide) (Ac 0) (Ac 2)) (A1 "__mul__" (Fv T) (Fq T) (L2N.takes_of (by rfl) (by rfl) (by rfl) (by rfl)) hr (by decide) (Ac 1) (Ac 2))))) (An (AH Cu)) Bg)
  (An (AH (TX (XW T) (Xw T) (L2N.takes_of (by rfl) (by rfl) (by rfl) (by rfl)) hr (by decide) (A1 "__mul__" (Fv T) (Fq T) (L2N.takes_of (by rfl) (by rfl) (by rfl) (by rfl)) hr (by decide) (A1 "__and__" (AZ T) (AX T) (L2N.takes_of (by rfl) (by rfl) (by rfl) (by rfl)) hr (by decide) (Ac 0) (Ac 1)) (Ac 2)) (A1 "__and__" (AZ T) (AX T) (L2N.takes_of (by rfl) (by rfl) (by rfl) (by rfl)) hr (by decide) (A1 "__mul__" (Fv T) (Fq T) (L2N.takes_of (by rfl) (by rfl) (by rfl) (by rfl)) hr (by decide) (Ac 0) (Ac 2)) (A1 "__mul__" (Fv T) (Fq T) (L2N.takes_of (by rfl) (by rfl) (by rfl) (by rfl)) hr (by decide) (Ac 1) (Ac 2))))))))
theorem KI(T:Tx P w K mg base cs):ClR P w K mg base "_law_on_the_right" 10 (CK K cs):=by
 obtain ⟨a,fd,F,hm⟩:=T.F__law_on_the_right
 exact B7 (J5 T F) hm F.kp (AG F (fun kV doc pm an cdv ct us hl=>match us,hl with | [_,_,_],_=>rfl))
theorem EK:FnScope ["_law_script","_law_box_here","_law_large","_law_count","_law_names_here","_law_pick","_law_spread_here","_law_shape","_law_rules_here","_law_k","_law_last","_law_one","_law_two","_law_three","#"] ["_law_script"] (defScope Fu):=⟨rfl,rfl,rfl,by decide +kernel,rfl,by decide +kernel,by decide +kernel⟩
theorem iq(T:Tx P w K mg base cs){a:Addr}{fd:FuncData}(F:FunD K "law" "law" (defArgs Fu) (defBody Fu) (defScope Fu) [] [] a fd):FnOk P w K mg base (L2N.CX P w) 11 a fd ["_law_script"] (DA K 1 (QP 14 (Xj K cs))):=
 Xn F EK rfl (by decide) (fun cdv A outer s H E hr=>
  (Ak (Eh (S:=[14]) 1 EK.nd (A3 (n:=14) (Ib T) (L2N.takes_of (by rfl) (by rfl) (by rfl) (by rfl)) hr (by decide) (by rfl) (CU (Ae (Ac 0) (Ae Am Af)))))
  (Ak (Eh (S:=[14]) 2 EK.nd (px_c (IS (Sk hr)) (A3 (n:=14) (AU T) (L2N.takes_of (by rfl) (by rfl) (by rfl) (by rfl)) hr (by decide) (by rfl) (CU (Ae (Ac 1) (Ae Am Af)))) (I7 Am)))
  (Ak (Eh (S:=[14]) 3 EK.nd (VM (I7 (CH (FN (Ae Am (Ae Am (Ae Am Af)))))) (A3 (n:=14) (AU T) (L2N.takes_of (by rfl) (by rfl) (by rfl) (by rfl)) hr (by decide) (by rfl) (CU (Ae (Ac 1) (Ae Am Af))))))
  (Ak (CQ (Ga (Ac 2)) (An (Eh (S:=[14]) 3 EK.nd (NV (I7 Am) (A3 (n:=14) (AU T) (L2N.takes_of (by rfl) (by rfl) (by rfl) (by rfl)) hr (by decide) (by rfl) (CU (Ae (Ac 1) (Ae Am Af))))))) Bg)
  (Ak (Eh (S:=[14]) 4 EK.nd (A3 (n:=14) (Q7 T) (L2N.takes_of (by rfl) (by rfl) (by rfl) (by rfl)) hr (by decide) (by rfl) (CU (Ae (Ac 1) (Ae (Ac 3) Af)))))
  (Ak (Eh (S:=[14]) 5 EK.nd (A3 (n:=14) (Ib T) (L2N.takes_of (by rfl) (by rfl) (by rfl) (by rfl)) hr (by decide) (by rfl) (CU (Ae (Ac 0) (Ae Am Af)))))
  (Ak (Eh (S:=[14]) 6 EK.nd (A3 (n:=14) (Px T) (L2N.takes_of (by rfl) (by rfl) (by rfl) (by rfl)) hr (by decide) (by rfl) (CU (Ae (Ac 5) Af))))
  (Ak (Eh (S:=[14]) 7 EK.nd (VM (I7 (CH (FN (Ae Am (Ae Am (Ae Am (Ae Am Af))))))) (A3 (n:=14) (AU T) (L2N.takes_of (by rfl) (by rfl) (by rfl) (by rfl)) hr (by decide) (by rfl) (CU (Ae (Ac 5) (Ae Am Af))))))
  (Ak (CQ (Ga (Ac 2)) (An (Cy 7 EK.nd Am)) Bg)
  (Ak (Tt 8 [("_law_k",9)] (by rfl) EK.nd (HD (by rfl) T.n_range Am) (fun s2 H2 C2 cl2 fp2=>(Ax 9 EK.nd)) (fun s2 H2 C2 cl2 fp2=>CL) (fun s2 H2 C2 cl2 fp2=>(Aq (Rm T) FD.takes0 hr (by decide) (by rfl) (Ae (Ac 0) (Ae (CG Am (hV (Ac 9) (Ac 3))) (Ae (Ac 4) (Ae (Ac 6) (Ae (Ac 7) Af))))))) (ok:=by exact blkOk_by (N:=["_law_script","_law_box_here","_law_large","_law_count","_law_names_here","_law_pick","_law_spread_here","_law_shape","_law_rules_here","_law_k","_law_last","_law_one","_law_two","_law_three","#"]) (sc:=defScope Fu) (by decide +kernel)))
  (Ak (Eh (S:=[14]) 10 EK.nd (A3 (n:=14) (Ib T) (L2N.takes_of (by rfl) (by rfl) (by rfl) (by rfl)) hr (by decide) (by rfl) (CU (Ae (Ac 0) (Ae Am Af)))))
  (Ak (UG (S:=[14]) (X2 (IS (Sk hr)) (A3 (n:=14) (AU T) (L2N.takes_of (by rfl) (by rfl) (by rfl) (by rfl)) hr (by decide) (by rfl) (CU (Ae (Ac 10) (Ae Am Af)))) (I7 Am)) (An (bS (S:=[14]) 8 (A3 (n:=14) (Qj T) (L2N.takes_of (by rfl) (by rfl) (by rfl) (by rfl)) hr (by decide) (by rfl) (CU (Ae (Ac 10) (Ae (BF 8 Am) Af)))) Am)) Bg)
  (Ak (Cy 11 EK.nd (Ts (OZ T) (L2N.takes_of (by rfl) (by rfl) (by rfl) (by rfl)) hr (by decide) (by rfl) (Ae (Aq (JE T) (L2N.takes_of (by rfl) (by rfl) (by rfl) (by rfl)) hr (by decide) (by rfl) (Ae (BF 8 Am) Af)) Af)))
  (Ak (Cy 12 EK.nd (Ts (OZ T) (L2N.takes_of (by rfl) (by rfl) (by rfl) (by rfl)) hr (by decide) (by rfl) (Ae (Aq (JE T) (L2N.takes_of (by rfl) (by rfl) (by rfl) (by rfl)) hr (by decide) (by rfl) (Ae (BF 8 Am) Af)) Af)))
  (Ak (Cy 13 EK.nd (Ts (OZ T) (L2N.takes_of (by rfl) (by rfl) (by rfl) (by rfl)) hr (by decide) (by rfl) (Ae (Aq (JE T) (L2N.takes_of (by rfl) (by rfl) (by rfl) (by rfl)) hr (by decide) (by rfl) (Ae (BF 8 Am) Af)) Af)))
  (Ak (UG (S:=[14]) (dR (kl (A3 (n:=14) (Md T) (L2N.takes_of (by rfl) (by rfl) (by rfl) (by rfl)) hr (by decide) (by rfl) (CU (Ae (Ac 11) (Ae (Ac 12) (Ae (BF 8 Am) (Ae (BF 8 Am) (Ae (Ac 10) (Ae (Ac 4) Af)))))))))) (An (AH Cu)) Bg)
  (Ak (CQ (Q5 (Di (Ba (Ga (Aq (OG T) (L2N.takes_of (by rfl) (by rfl) (by rfl) (by rfl)) hr (by decide) (by rfl) (Ae (Ac 11) (Ae (Ac 12) (Ae (Ac 13) Af)))))) (CF (Ba (Ga (Aq (KI T) (L2N.takes_of (by rfl) (by rfl) (by rfl) (by rfl)) hr (by decide) (by rfl) (Ae (Ac 11) (Ae (Ac 12) (Ae (Ac 13) Af))))))))) (An (AH Cu)) Bg)
  (Ak (CQ (Q5 (Di (F9 Xp (OV (Jd T) (L2N.takes_of (by rfl) (by rfl) (by rfl) (by rfl)) hr (by decide) (Ac 11) (Ae (A1 "__or__" (Bf T) (Bc T) (L2N.takes_of (by rfl) (by rfl) (by rfl) (by rfl)) hr (by decide) (Ac 11) (Ac 12)) Af)) Cu) (CF (F9 Xp (OV (Jd T) (L2N.takes_of (by rfl) (by rfl) (by rfl) (by rfl)) hr (by decide) (A1 "__and__" (AZ T) (AX T) (L2N.takes_of (by rfl) (by rfl) (by rfl) (by rfl)) hr (by decide) (Ac 11) (Ac 12)) (Ae (Ac 11) Af)) Cu)))) (An (AH Cu)) Bg)
  (Ak (CQ (Q5 (Di (Ba (Ga (Aq (IB T) (L2N.takes_of (by rfl) (by rfl) (by rfl) (by rfl)) hr (by decide) (by rfl) (Ae (Ac 11) (Ae (Ac 12) (Ae (BF 8 Am) (Ae (BF 8 Am) (Ae (Ac 4) Af)))))))) (CF (Ba (Ga (Aq (IB T) (L2N.takes_of (by rfl) (by rfl) (by rfl) (by rfl)) hr (by decide) (by rfl) (Ae (Ac 12) (Ae (Ac 11) (Ae (BF 8 Am) (Ae (BF 8 Am) (Ae (Ac 4) Af))))))))))) (An (AH Cu)) Bg)
  (Ak (CQ (Ba (Ga (Aq (IB T) (L2N.takes_of (by rfl) (by rfl) (by rfl) (by rfl)) hr (by decide) (by rfl) (Ae (Ac 11) (Ae (Ac 13) (Ae (BF 8 Am) (Ae (BF 8 Am) (Ae (Ac 4) Af)))))))) (An (AH Cu)) Bg)
  (An (AH (LM (Aq (E4 T) (L2N.takes_of (by rfl) (by rfl) (by rfl) (by rfl)) hr (by decide) (by rfl) (Ae (Ac 11) (Ae (BF 8 Am) Af))) (LM (Aq (E4 T) (L2N.takes_of (by rfl) (by rfl) (by rfl) (by rfl)) hr (by decide) (by rfl) (Ae (Ac 12) (Ae (BF 8 Am) Af))) (N3 (Aq (E4 T) (L2N.takes_of (by rfl) (by rfl) (by rfl) (by rfl)) hr (by decide) (by rfl) (Ae (Ac 13) (Ae (BF 8 Am) Af)))))))))))))))))))))))))))))
end
end Lk16
namespace Nf
section
variable {κ:Type} [DecidableEq κ]
abbrev Rw(κ:Type):=List (κ × Int)
def ks(a:Rw κ):List κ:=a.map (·.1)
def sm(a:Rw κ):Int:=(a.map (·.2)).sum
def Below(a b:Rw κ):Prop:=∀ p∈a,∃ y,(p.1,y)∈b∧p.2≤y
theorem Eu{a:Rw κ}{k:κ}{x:Int}(h:(k,x)∈a):k∈ks a:=List.mem_map.mpr ⟨(k,x),h,rfl⟩
theorem Below.refl(a:Rw κ):Below a a:=fun p hp=>⟨p.2,hp,Int.le_refl _⟩
theorem Below.trans{a b c:Rw κ}(h:Below a b)(h':Below b c):Below a c:=fun p hp=>by
 obtain ⟨y,hy,l⟩:=h p hp
 obtain ⟨z,hz,l'⟩:=h' _ hy
 exact ⟨z,hz,Int.le_trans l l'⟩
theorem Below.V7{a b:Rw κ}(h:∀ p∈a,p∈b):Below a b:=fun p hp=>⟨p.2,h p hp,Int.le_refl _⟩
theorem uniq{a:Rw κ}(n:(ks a).Nodup){k:κ}{x y:Int}(h:(k,x)∈a)(h':(k,y)∈a):x=y:=by
 induction a with
 | nil=>cases h
 | cons q a ih=>
  obtain ⟨n1,n2⟩:=List.nodup_cons.mp (show (q.1 :: ks a).Nodup from n)
  rcases List.mem_cons.mp h with e | m <;> rcases List.mem_cons.mp h' with e' | m'
  ·rw [← e] at e'; cases e'; rfl
  ·exact absurd (by rw [← e]; exact Eu m') n1
  ·exact absurd (by rw [← e']; exact Eu m) n1
  ·exact ih n2 m m'
theorem cb{a b:Rw κ}(h:a.Perm b):sm a=sm b:=by
 unfold sm
 induction h with
 | nil=>rfl
 | cons x _ ih=>simp only [List.map_cons,List.sum_cons,ih]
 | swap x y l=>simp only [List.map_cons,List.sum_cons]; omega
 | trans _ _ h1 h2=>exact h1.trans h2
theorem JB:∀ {a b:Rw κ},(ks a).Nodup→(ks b).Nodup→Below a b→a.length≤b.length∧(a.length=b.length→sm a≤sm b∧(sm a=sm b→a.Perm b))
 | [],b,_,_,_=>⟨Nat.zero_le _,fun e=>by
   have:b=[]:=List.eq_nil_of_length_eq_zero e.symm
   subst this
   exact ⟨Int.le_refl _,fun _=>.refl _⟩⟩
 | (k,x) :: a,b,na,nb,h=>by
  obtain ⟨n1,n2⟩:=List.nodup_cons.mp (show (k :: ks a).Nodup from na)
  obtain ⟨y,hy,l⟩:=h (k,x) List.mem_cons_self
  have l:x≤y:=l
  have hp:b.Perm ((k,y) :: b.erase (k,y)):=List.perm_cons_erase hy
  have nb':(ks (b.erase (k,y))).Nodup∧k∉ks (b.erase (k,y)):=by
   have q':(k :: ks (b.erase (k,y))).Nodup:=(List.Perm.map (fun p:κ × Int=>p.1) hp).nodup_iff.mp nb
   obtain ⟨q1,q2⟩:=List.nodup_cons.mp q'
   exact ⟨q2,q1⟩
  have hb:Below a (b.erase (k,y)):=fun p hp'=>by
   obtain ⟨z,hz,lz⟩:=h p (List.mem_cons_of_mem _ hp')
   refine ⟨z,?_,lz⟩
   rcases List.mem_cons.mp (hp.mem_iff.mp hz) with e | hz
   ·have e1:p.1=k:=congrArg Prod.fst e
    exact absurd (List.mem_map.mpr ⟨p,hp',e1⟩) n1
   ·exact hz
  obtain ⟨i1,i2⟩:=JB n2 nb'.1 hb
  have hl:b.length=(b.erase (k,y)).length + 1:=by rw [hp.length_eq]; rfl
  have hs:sm b=y + sm (b.erase (k,y)):=by rw [cb hp]; rfl
  have ha:sm ((k,x) :: a)=x + sm a:=rfl
  refine ⟨by rw [hl]; exact Nat.succ_le_succ i1,fun e=>?_⟩
  obtain ⟨j1,j2⟩:=i2 (by have e':a.length + 1=b.length:=e; omega)
  refine ⟨by omega,fun e'=>?_⟩
  have e2:x=y:=by omega
  subst e2
  exact ((j2 (by omega)).cons _).trans hp.symm
end
end Nf
namespace Nf
open PySem PySem.W PyProof.Rows SX TL
abbrev Kn:=List Nat
abbrev Row:=Rw Kn
def sP(k:Kn):PyData:=.str (S k)
def pP(p:Kn × Int):PyData:=.tuple [sP p.1,.int p.2]
def rP(r:Row):PyData:=.tuple (r.map pP)
theorem S_inj{a b:Kn}(h:S a=S b):a=b:=by
 have:=congrArg (fun s:Str=>s.cps.toList) h
 simpa [S] using this
theorem QQ(p q:Kn × Int):alike (pP p) (pP q)=true:=by
 unfold pP sP
 simp [alike,alikeAll]
theorem Oj:∀ a b:Row,alikeAll (a.map pP) (b.map pP)=true
 | [],b=>by simp [alikeAll]
 | p :: a,[]=>by simp [alikeAll]
 | p :: a,q :: b=>by
  rw [List.map_cons,List.map_cons,alikeAll,QQ,Oj a b]
  rfl
theorem M5(a b:Row):alike (rP a) (rP b)=true:=by
 unfold rP
 rw [alike]
 exact Oj a b
theorem Q3(a b:Kn):PyData.eqv (sP a) (sP b)=decide (a=b):=by
 unfold sP
 rw [PyData.eqv]
 by_cases h:a=b
 ·subst h; simp
 ·rw [decide_eq_false h]
  exact beq_eq_false_iff_ne.mpr fun e=>h (S_inj e)
theorem ZD(p q:Kn × Int):PyData.eqv (pP p) (pP q)=decide (p=q):=by
 obtain ⟨k,x⟩:=p
 obtain ⟨j,y⟩:=q
 unfold pP
 rw [PyData.eqv,PyData.eqvAll,PyData.eqvAll,PyData.eqvAll,Q3,PyData.eqv]
 by_cases h1:k=j <;> by_cases h2:x=y <;> simp [h1,h2]
theorem NX:∀ a b:Row,PyData.eqvAll (a.map pP) (b.map pP)=decide (a=b)
 | [],[]=>by simp [PyData.eqvAll]
 | [],q :: b=>by simp [PyData.eqvAll]
 | p :: a,[]=>by simp [PyData.eqvAll]
 | p :: a,q :: b=>by
  rw [List.map_cons,List.map_cons,PyData.eqvAll,ZD,NX a b]
  simp
theorem SG(a b:Row):PyData.eqv (rP a) (rP b)=decide (a=b):=by
 unfold rP
 rw [PyData.eqv]
 exact NX a b
theorem Na{x y:PyData}(h:alike x y=true)(e:keyToks x=keyToks y):PyData.eqv x y=true:=by
 cases hv:PyData.eqv x y with
 | true=>rfl
 | false=>
  have q:=(toks_eqv x y h).2 hv [] [.inl 0]
  rw [e,lex_irrefl,lex_pre] at q
  exact absurd (show true=false from q) (by decide)
structure Od (α:Type) where
 tok:α→List (Int ⊕ List Nat)
 inj:∀ a b,tok a=tok b→a=b
namespace Od
variable {α:Type} (O:Od α)
def lt(a b:α):Bool:=PyProof.Rows.lexLt itemOrd (O.tok a) (O.tok b)
def le(a b:α):Bool:=!O.lt b a
theorem irr(a:α):O.lt a a=false:=lex_irrefl (O:=itemOrd) _
theorem tr{a b c:α}(h:O.lt a b=true)(h':O.lt b c=true):O.lt a c=true:=lex_trans (O:=itemOrd) _ _ _ h h'
theorem tot{a b:α}(h:O.lt a b=false)(h':O.lt b a=false):a=b:=O.inj _ _ (lex_total (O:=itemOrd) _ _ h h')
theorem asym{a b:α}(h:O.lt a b=true):O.lt b a=false:=by
 cases e:O.lt b a with
 | false=>rfl
 | true=>have:=O.tr h e; rw [O.irr] at this; exact this.symm
theorem ZQ(a b c:α)(h:O.le a b=true)(h':O.le b c=true):O.le a c=true:=by
 unfold le at *
 cases e:O.lt c a with
 | false=>rfl
 | true=>
  rcases lex_negTrans (O:=itemOrd) _ (O.tok b) _ e with z | z
  ·have z:O.lt c b=true:=z
   rw [z] at h'; exact h'
  ·have z:O.lt b a=true:=z
   rw [z] at h; exact h
theorem WC(a b:α):(O.le a b || O.le b a)=true:=by
 unfold le
 cases e:O.lt b a with
 | false=>rfl
 | true=>rw [O.asym e]; rfl
theorem XB(a b:α)(h:O.le a b=true)(h':O.le b a=true):a=b:=by
 unfold le at *
 exact O.tot (by simpa using h') (by simpa using h)
theorem le_iff{a b:α}:O.le a b=true ↔ O.lt b a=false:=by unfold le; cases O.lt b a <;> simp
def sort(l:List α):List α:=l.mergeSort O.le
theorem CC(l:List α):(O.sort l).Perm l:=List.mergeSort_perm _ _
theorem K6(l:List α):(O.sort l).Pairwise fun a b=>O.le a b=true:=List.pairwise_mergeSort O.ZQ O.WC l
theorem one{a b:List α}(h:a.Perm b)(ha:a.Pairwise fun a b=>O.le a b=true)(hb:b.Pairwise fun a b=>O.le a b=true):a=b:=
 (Srt.the_of_perm O.le O.ZQ O.WC O.XB h ha).trans (Srt.the_of_perm O.le O.ZQ O.WC O.XB (List.Perm.refl b) hb).symm
end Od
def pO:Od (Kn × Int):=⟨fun p=>keyToks (pP p),fun a b e=>by have q:=Na (QQ a b) e; rw [ZD] at q; exact of_decide_eq_true q⟩
def rO:Od Row:=⟨fun r=>keyToks (rP r),fun a b e=>by have q:=Na (M5 a b) e; rw [SG] at q; exact of_decide_eq_true q⟩
theorem lu(p q:Kn × Int):pO.lt p q=dataLt (pP p) (pP q):=rfl
theorem df(p q:Kn × Int):pO.lt p q=true ↔ p.1 < q.1∨(p.1=q.1∧p.2 < q.2):=by
 rw [lu]
 unfold pP sP
 rw [dataLt_pair (by simp [alike]) (by simp [alike]),dataLt_str,dataLt_int,show PyData.eqv (.str (S p.1)) (.str (S q.1))=decide (p.1=q.1) from Q3 p.1 q.1,PyData.eqv]
 simp only [S,List.toList_toArray]
 by_cases h:p.1=q.1
 ·rw [decide_eq_true h,if_pos rfl,h]
  by_cases h2:p.2=q.2
  ·rw [h2]; simp [List.lt_irrefl]
  ·rw [if_neg (by simpa using h2)]; simp [List.lt_irrefl]
 ·rw [decide_eq_false h,if_neg (by decide)]
  simp [h]
def Up(r:Row):Prop:=r.Pairwise fun a b=>a.1 < b.1
def flat(r:Row):Row:=pO.sort r
structure Flat (r:Row):Prop where
 nd:(ks r).Nodup
 up:r.Pairwise fun a b=>pO.le a b=true
theorem DR(r:Row):(flat r).Perm r:=pO.CC r
theorem XI{a b:Row}(h:a.Perm b):(ks a).Perm (ks b):=h.map _
theorem NM{r:Row}(h:(ks r).Nodup):Flat (flat r):=⟨(XI (DR r)).nodup_iff.mpr h,pO.K6 r⟩
theorem Flat.eq{a b:Row}(ha:Flat a)(hb:Flat b)(h:a.Perm b):a=b:=pO.one h ha.up hb.up
theorem Flat.self{a:Row}(h:Flat a):flat a=a:=pO.one (DR a) (pO.K6 a) h.up
theorem Flat.rise{r:Row}(h:Flat r):Up r:=by
 have n:r.Pairwise fun a b=>a.1≠b.1:=List.pairwise_map.mp h.nd
 refine (h.up.and n).imp fun {a b} ⟨h1,h2⟩=>?_
 cases e:pO.lt a b with
 | true=>
  rcases (df a b).mp e with z | z
  ·exact z
  ·exact absurd z.1 h2
 | false=>
  have:a=b:=pO.tot e (pO.le_iff.mp h1)
  exact absurd (congrArg Prod.fst this) h2
theorem Below.perm{a b c d:Row}(h:Below a b)(p:a.Perm c)(q:b.Perm d):Below c d:=fun x hx=>by
 obtain ⟨y,hy,l⟩:=h x (p.mem_iff.mpr hx)
 exact ⟨y,q.mem_iff.mp hy,l⟩
theorem Flat.BZ{a b:Row}(ha:Flat a)(hb:Flat b)(h:Below a b)(h':Below b a):a=b:=by
 obtain ⟨l1,i1⟩:=JB ha.nd hb.nd h
 obtain ⟨l2,i2⟩:=JB hb.nd ha.nd h'
 have e:a.length=b.length:=by omega
 obtain ⟨s1,p1⟩:=i1 e
 obtain ⟨s2,_⟩:=i2 e.symm
 exact ha.eq hb (p1 (by omega))
def tP(r:Row):PyData:=.tuple [.int r.length,.int (sm r),rP r]
theorem Vj(a b:Row):alike (tP a) (tP b)=true:=by
 unfold tP
 rw [alike,alikeAll,alikeAll,alikeAll,M5]
 simp [alike,alikeAll]
theorem jj(a b:Row):PyData.eqv (tP a) (tP b)=decide (a=b):=by
 unfold tP
 rw [PyData.eqv,PyData.eqvAll,PyData.eqvAll,PyData.eqvAll,PyData.eqvAll,SG,PyData.eqv,PyData.eqv]
 by_cases h:a=b
 ·subst h; simp
 ·simp [h]
def tO:Od Row:=⟨fun r=>keyToks (tP r),fun a b e=>by have q:=Na (Vj a b) e; rw [jj] at q; exact of_decide_eq_true q⟩
theorem gx(a b:Row):tO.lt a b=dataLt (tP a) (tP b):=rfl
theorem c4{a b:Row}(h:a.length < b.length):tO.lt a b=true:=by
 rw [gx]
 unfold tP
 rw [dataLt_tuple,dataLt_cons (by simp [alike]),PyData.eqv,if_neg (by simp; omega),dataLt_int]
 exact decide_eq_true (by omega)
theorem iX{a b:Row}(h:a.length=b.length)(h':sm a < sm b):tO.lt a b=true:=by
 rw [gx]
 unfold tP
 rw [dataLt_tuple,dataLt_cons (by simp [alike]),PyData.eqv,if_pos (by simp [h]),dataLt_cons (by simp [alike]),PyData.eqv,if_neg (by simp; omega),dataLt_int]
 exact decide_eq_true h'
theorem YG{a b:Row}(ha:Flat a)(hb:Flat b)(h:Below a b)(hn:tO.lt a b=false):a=b:=by
 obtain ⟨l1,i1⟩:=JB ha.nd hb.nd h
 by_cases e:a.length=b.length
 ·obtain ⟨s1,p1⟩:=i1 e
  by_cases e2:sm a=sm b
  ·exact ha.eq hb (p1 e2)
  ·rw [iX e (by omega)] at hn; cases hn
 ·rw [c4 (by omega)] at hn; cases hn
end Nf
namespace Nf
section
variable {κ:Type} [DecidableEq κ]
def gt:Rw κ→κ→Option Int
 | [],_=>none
 | p :: r,j=>if j=p.1 then some p.2 else gt r j
theorem Hb{r:Rw κ}{k:κ}{x:Int}(h:gt r k=some x):(k,x)∈r:=by
 induction r with
 | nil=>cases h
 | cons p r ih=>
  unfold gt at h
  by_cases e:k=p.1
  ·rw [if_pos e] at h
   cases h
   rw [e]
   exact List.mem_cons_self
  ·rw [if_neg e] at h
   exact List.mem_cons_of_mem _ (ih h)
theorem Iw{r:Rw κ}{k:κ}:gt r k=none ↔ k∉ks r:=by
 induction r with
 | nil=>exact ⟨fun _ h=>(nomatch h),fun _=>rfl⟩
 | cons p r ih=>
  unfold gt
  show _ ↔ k∉p.1 :: ks r
  by_cases e:k=p.1
  ·rw [if_pos e,e]; simp
  ·rw [if_neg e,ih]; simp [e]
theorem JH{r:Rw κ}{k:κ}{x:Int}(n:(ks r).Nodup)(h:(k,x)∈r):gt r k=some x:=by
 cases e:gt r k with
 | none=>exact absurd (Eu h) (Iw.mp e)
 | some y=>rw [uniq n (Hb e) h]
def Bj(a b:Rw κ):Bool:=a.all fun p=>match gt b p.1 with
 | some y=>decide (p.2≤y)
 | none=>false
theorem Fh{a b:Rw κ}(n:(ks b).Nodup):Bj a b=true ↔ Below a b:=by
 unfold Bj Below
 rw [List.all_eq_true]
 refine forall_congr' fun p=>forall_congr' fun _=>?_
 constructor
 ·intro h
  cases e:gt b p.1 with
  | none=>rw [e] at h; cases h
  | some y=>rw [e] at h; exact ⟨y,Hb e,of_decide_eq_true h⟩
 ·rintro ⟨y,hy,l⟩
  rw [JH n hy]
  exact decide_eq_true l
end
def keep:List Row→List Row→List Row
 | K,[]=>K
 | K,r :: R=>if (K.any fun o=>Bj o r)=true then keep K R else keep (K ++ [r]) R
def AC(L:List Row):Prop:=L.Pairwise fun x y=>¬ Below x y∧¬ Below y x
theorem AC.eq{L:List Row}(h:AC L){x y:Row}(hx:x∈L)(hy:y∈L)(b:Below x y):x=y:=by
 induction L with
 | nil=>cases hx
 | cons z L ih=>
  obtain ⟨h1,h2⟩:=List.pairwise_cons.mp h
  rcases List.mem_cons.mp hx with e | hx <;> rcases List.mem_cons.mp hy with e' | hy
  ·rw [e,e']
  ·rw [e] at b; exact absurd b (h1 _ hy).1
  ·rw [e'] at b; exact absurd b (h1 _ hx).2
  ·exact ih h2 hx hy
theorem Nu:∀ (R K:List Row),(∀ r∈R,Flat r)→(∀ r∈K,Flat r)→AC K→(∀ k∈K,∀ r∈R,tO.lt r k=false)→(R.Pairwise fun a b=>tO.lt b a=false) →
  AC (keep K R)∧(∀ x∈keep K R,x∈K∨x∈R)∧(∀ x∈K,x∈keep K R)∧∀ r∈R,∃ o∈keep K R,Below o r
 | [],K,_,_,h,_,_=>⟨h,fun x hx=>.inl hx,fun x hx=>hx,fun r hr=>nomatch hr⟩
 | r :: R,K,fr,fk,h,hk,hr=>by
  obtain ⟨p1,p2⟩:=List.pairwise_cons.mp hr
  have fR:∀ r∈R,Flat r:=fun x hx=>fr x (List.mem_cons_of_mem _ hx)
  have f0:=fr r List.mem_cons_self
  unfold keep
  by_cases e:(K.any fun o=>Bj o r)=true
  ·rw [if_pos e]
   obtain ⟨i1,i2,i3,i4⟩:=Nu R K fR fk h (fun k hk' x hx=>hk k hk' x (List.mem_cons_of_mem _ hx)) p2
   refine ⟨i1,fun x hx=>(i2 x hx).imp id (List.mem_cons_of_mem _),i3,fun x hx=>?_⟩
   rcases List.mem_cons.mp hx with rfl | hx
   ·obtain ⟨o,ho,b⟩:=List.any_eq_true.mp e
    exact ⟨o,i3 o ho,(Fh f0.nd).mp b⟩
   ·exact i4 x hx
  ·rw [if_neg e]
   have hn:∀ o∈K,¬ Below o r:=fun o ho b=>e (List.any_eq_true.mpr ⟨o,ho,(Fh f0.nd).mpr b⟩)
   have hA:AC (K ++ [r]):=List.pairwise_append.mpr ⟨h,List.pairwise_singleton _ _,fun k hk' y hy=>by
    rw [List.mem_singleton.mp hy]
    refine ⟨hn k hk',fun b=>hn k hk' ?_⟩
    have:=YG f0 (fk k hk') b (hk k hk' r List.mem_cons_self)
    rw [this]
    exact Below.refl _⟩
   obtain ⟨i1,i2,i3,i4⟩:=Nu R (K ++ [r]) fR (fun x hx=>by
    rcases List.mem_append.mp hx with z | z
    ·exact fk x z
    ·rw [List.mem_singleton.mp z]; exact f0) hA (fun k hk' x hx=>by
    rcases List.mem_append.mp hk' with z | z
    ·exact hk k z x (List.mem_cons_of_mem _ hx)
    ·rw [List.mem_singleton.mp z]; exact p1 x hx) p2
   refine ⟨i1,fun x hx=>?_,fun x hx=>i3 x (List.mem_append_left _ hx),fun x hx=>?_⟩
   ·rcases i2 x hx with z | z
    ·rcases List.mem_append.mp z with z | z
     ·exact .inl z
     ·rw [List.mem_singleton.mp z]; exact .inr List.mem_cons_self
    ·exact .inr (List.mem_cons_of_mem _ z)
   ·rcases List.mem_cons.mp hx with rfl | hx
    ·exact ⟨x,i3 x (List.mem_append_right _ (List.mem_singleton.mpr rfl)),Below.refl _⟩
    ·exact i4 x hx
def lows(R:List Row):List Row:=rO.sort (keep [] (tO.sort R))
def Nr(R S:List Row):Prop:=∀ s∈S,∃ r∈R,Below r s
theorem Nr.trans{A B C:List Row}(h:Nr A B)(h':Nr B C):Nr A C:=fun c hc=>by
 obtain ⟨b,hb,l⟩:=h' c hc
 obtain ⟨a,ha,l'⟩:=h b hb
 exact ⟨a,ha,l'.trans l⟩
theorem Nr.V7{R S:List Row}(h:∀ s∈S,∃ r∈R,r.Perm s):Nr R S:=fun s hs=>by
 obtain ⟨r,hr,p⟩:=h s hs
 exact ⟨r,hr,Below.V7 fun x hx=>p.mem_iff.mp hx⟩
structure NF (L:List Row):Prop where
 fl:∀ l∈L,Flat l
 ac:AC L
 up:L.Pairwise fun a b=>rO.lt a b=true
theorem Yz{R:List Row}(h:∀ r∈R,Flat r):NF (lows R)∧(∀ l∈lows R,l∈R)∧Nr (lows R) R:=by
 have hp:=tO.CC R
 obtain ⟨i1,i2,i3,i4⟩:=Nu (tO.sort R) [] (fun r hr=>h r (hp.mem_iff.mp hr)) (fun r hr=>nomatch hr) List.Pairwise.nil (fun k hk=>nomatch hk) ((tO.K6 R).imp fun z=>tO.le_iff.mp z)
 have hq:=rO.CC (keep [] (tO.sort R))
 have m:∀ l∈lows R,l∈R:=fun l hl=>by
  rcases i2 l (hq.mem_iff.mp hl) with z | z
  ·cases z
  ·exact hp.mem_iff.mp z
 have ac:AC (lows R):=hq.symm.pairwise i1 (fun {x y} z=>⟨z.2,z.1⟩)
 refine ⟨⟨fun l hl=>h l (m l hl),ac,?_⟩,m,fun r hr=>?_⟩
 ·refine ((rO.K6 _).and ac).imp fun {a b} ⟨h1,h2⟩=>?_
  cases e:rO.lt a b with
  | true=>rfl
  | false=>
   have:a=b:=rO.tot e (rO.le_iff.mp h1)
   exact absurd (this ▸ Below.refl a) h2.1
 ·obtain ⟨o,ho,b⟩:=i4 r (hp.mem_iff.mpr hr)
  exact ⟨o,hq.mem_iff.mpr ho,b⟩
theorem NF.sub{L L':List Row}(h:NF L)(h':NF L')(d:Nr L L')(d':Nr L' L):∀ l∈L,l∈L':=fun l hl=>by
 obtain ⟨m,hm,b⟩:=d' l hl
 obtain ⟨n,hn,c⟩:=d m hm
 have e:=h.ac.eq hn hl (c.trans b)
 subst e
 rw [(h.fl _ hn).BZ (h'.fl _ hm) c b]
 exact hm
theorem NF.nodup{L:List Row}(h:NF L):L.Nodup:=h.up.imp fun {a b} z e=>by rw [e,rO.irr] at z; cases z
theorem NF.one{L L':List Row}(h:NF L)(h':NF L')(d:Nr L L')(d':Nr L' L):L=L':=by
 have p:L.Perm L':=(List.perm_ext_iff_of_nodup h.nodup h'.nodup).mpr fun x=>⟨h.sub h' d d' x,h'.sub h d' d x⟩
 refine rO.one p (h.up.imp fun {a b} z=>?_) (h'.up.imp fun {a b} z=>?_) <;> exact rO.le_iff.mpr (rO.asym z)
end Nf
namespace Nf
open FD
def mx(r:Row)(f:Kn→Int):Int:=Fy (r.map fun p=>f p.1 + p.2)
def vl(R:List Row)(f:Kn→Int):Int:=QG (R.map fun r=>mx r f)
theorem g5{r:Row}{f:Kn→Int}{c:Int}(h:r≠[]):mx r f≤c ↔ ∀ p∈r,f p.1 + p.2≤c:=by
 obtain ⟨h1,h2⟩:=HC (l:=r.map fun p=>f p.1 + p.2) (by simpa using h)
 constructor
 ·intro z p hp
  exact Int.le_trans (h2 _ (List.mem_map.mpr ⟨p,hp,rfl⟩)) z
 ·intro z
  obtain ⟨p,hp,e⟩:=List.mem_map.mp h1
  unfold mx
  rw [← e]
  exact z p hp
theorem kj{R:List Row}{f:Kn→Int}{c:Int}(h:R≠[]):vl R f≤c ↔ ∃ r∈R,mx r f≤c:=by
 obtain ⟨h1,h2⟩:=N1 (l:=R.map fun r=>mx r f) (by simpa using h)
 constructor
 ·intro z
  obtain ⟨p,hp,e⟩:=List.mem_map.mp h1
  exact ⟨p,hp,by have e:mx p f=vl R f:=e; rw [e]; exact z⟩
 ·rintro ⟨r,hr,z⟩
  exact Int.le_trans (h2 _ (List.mem_map.mpr ⟨r,hr,rfl⟩)) z
def fq(r:Row)(far:Int):Kn→Int:=fun k=>match gt r k with
 | some x=>0 - x
 | none=>far
structure Rs (R:List Row):Prop where
 ne:R≠[]
 nn:∀ r∈R,r≠[]
 nd:∀ r∈R,(ks r).Nodup
def nf(R:List Row):List Row:=lows (R.map flat)
theorem Ej{R:List Row}(n:∀ r∈R,(ks r).Nodup):NF (nf R)∧(∀ l∈nf R,∃ r∈R,l=flat r)∧Nr (nf R) R∧Nr R (nf R):=by
 obtain ⟨h1,h2,h3⟩:=Yz (R:=R.map flat) fun r hr=>by
  obtain ⟨x,hx,rfl⟩:=List.mem_map.mp hr
  exact NM (n x hx)
 have m:∀ l∈nf R,∃ r∈R,l=flat r:=fun l hl=>by
  obtain ⟨x,hx,e⟩:=List.mem_map.mp (h2 l hl)
  exact ⟨x,hx,e.symm⟩
 refine ⟨h1,m,fun r hr=>?_,fun l hl=>?_⟩
 ·obtain ⟨l,hl,b⟩:=h3 (flat r) (List.mem_map.mpr ⟨r,hr,rfl⟩)
  exact ⟨l,hl,b.perm (List.Perm.refl _) (DR r)⟩
 ·obtain ⟨r,hr,rfl⟩:=m l hl
  exact ⟨r,hr,Below.V7 fun x hx=>(DR r).mem_iff.mpr hx⟩
theorem Z4{R S:List Row}(n:∀ r∈R,(ks r).Nodup)(n':∀ r∈S,(ks r).Nodup)(d:Nr R S)(d':Nr S R):nf R=nf S:=by
 obtain ⟨a1,_,a3,a4⟩:=Ej n
 obtain ⟨b1,_,b3,b4⟩:=Ej n'
 exact a1.one b1 (a3.trans (d.trans b4)) (b3.trans (d'.trans a4))
theorem iA{R S:List Row}(n:∀ r∈R,(ks r).Nodup)(n':∀ r∈S,(ks r).Nodup):nf R=nf S ↔ Nr R S∧Nr S R:=by
 constructor
 ·intro e
  obtain ⟨_,_,a3,a4⟩:=Ej n
  obtain ⟨_,_,b3,b4⟩:=Ej n'
  rw [← e] at b3 b4
  exact ⟨a4.trans b3,b4.trans a3⟩
 ·rintro ⟨d,d'⟩
  exact Z4 n n' d d'
theorem kP{R:List Row}(n:∀ r∈R,(ks r).Nodup):nf (nf R)=nf R:=by
 obtain ⟨a1,_,a3,a4⟩:=Ej n
 exact Z4 (fun r hr=>(a1.fl r hr).nd) n a3 a4
end Nf
local macro_rules | `(tactic| push_cast [$xs,*]) => `(tactic| simp only [FD.J6, FD.HE, FD.Nj, FD.I4, FD.IZ, FD.Gg, Bool.true_or, Bool.false_or, FD.Vx, FD.UW, FD.Pc, FD.Qw, FD.JU, FD.J9, FD.Nk, FD.I6, FD.M0, FD.MS, FD.MB, FD.Ki, FD.L3, FD.Cell.Um, FD.Kr, FD.JX, FD.MJ, FD.HQ, FD.Kv, FD.Mw, FD.L0, FD.JS, FD.JQ, FD.PU, FD.KA, FD.IY, FD.IM, FD.Qr, FD.Pe, FD.XO.AA, FD.Out.Yg, FD.Og, FD.Ji, FD.P6, FD.Qd, FD.U3, FD.Ld, FD.Ks, FD.O8, FD.MT, FD.Kj, FD.KD, FD.Lg, FD.M9, FD.HP, FD.UM, FD.PM, FD.LU, FD.Mo, FD.Ql, FD.UH, FD.Ve, FD.Of, FD.U1, FD.UJ, FD.LX, FD.QL, FD.MP, FD.MA, FD.GR, FD.Mv, FD.L5, FD.Vp, FD.Vy, FD.IU, FD.Ni, FD.MX, FD.CB, FD.IP, FD.Km, FD.Nn, FD.Ee, FD.LY, FD.J0, FD.GV, FD.Ek, FD.Qv, FD.PZ, FD.QH, FD.Pa, FD.PH, FD.Lo.UK, List.all_cons, List.all_nil, Bool.and_true, Bool.true_and, Bool.and_false, Bool.false_and, FD.Mz, FD.MN, FD.Lh, FD.Out.AA, FD.Fb, FD.Gx, FD.HV, FD.B3, FD.Mr, FD.HK, FD.P5, FD.MQ, FD.MK, FD.Q0, FD.Pg, FD.HI, FD.Me, FD.Kt, FD.L1, FD.My, FD.MU, FD.Uj, FD.UL, FD.VF, Option.bind_some, Option.map_some, FD.ID, FD.L6, FD.Qh, FD.KG, FD.Mn, FD.Mq, FD.Pt, FD.K0, FD.Qg, FD.LV, FD.Dt.MI, FD.Dt.Mc, FD.Ke, FD.I9, FD.MW, FD.MZ, FD.MY, FD.GW, FD.FL, FD.EW, FD.Jm, List.map_cons, List.map_nil, List.length_cons, List.length_nil, List.cons_append, List.nil_append, List.set_cons_zero, List.set_cons_succ, List.getElem?_cons_zero, List.getElem?_cons_succ, Nat.reduceAdd, Nat.reduceSub, Nat.zero_add, Nat.sub_self, List.replicate_zero, List.replicate_succ, Nat.reduceLeDiff, if_true, if_false, Bool.false_eq_true, Bool.not_true, Bool.not_false, decide_eq_true_eq, FD.Ko, FD.K4, FD.HB, FD.HS, FD.Kk, FD.Qs, FD.J4, FD.JO, FD.Kf, FD.MF, FD.Nc, FD.NI, $xs,*])
local macro_rules | `(tactic| push_cast [$xs,*] at $h:ident) => `(tactic| simp only [FD.J6, FD.HE, FD.Nj, FD.I4, FD.IZ, FD.Gg, Bool.true_or, Bool.false_or, FD.Vx, FD.UW, FD.Pc, FD.Qw, FD.JU, FD.J9, FD.Nk, FD.I6, FD.M0, FD.MS, FD.MB, FD.Ki, FD.L3, FD.Cell.Um, FD.Kr, FD.JX, FD.MJ, FD.HQ, FD.Kv, FD.Mw, FD.L0, FD.JS, FD.JQ, FD.PU, FD.KA, FD.IY, FD.IM, FD.Qr, FD.Pe, FD.XO.AA, FD.Out.Yg, FD.Og, FD.Ji, FD.P6, FD.Qd, FD.U3, FD.Ld, FD.Ks, FD.O8, FD.MT, FD.Kj, FD.KD, FD.Lg, FD.M9, FD.HP, FD.UM, FD.PM, FD.LU, FD.Mo, FD.Ql, FD.UH, FD.Ve, FD.Of, FD.U1, FD.UJ, FD.LX, FD.QL, FD.MP, FD.MA, FD.GR, FD.Mv, FD.L5, FD.Vp, FD.Vy, FD.IU, FD.Ni, FD.MX, FD.CB, FD.IP, FD.Km, FD.Nn, FD.Ee, FD.LY, FD.J0, FD.GV, FD.Ek, FD.Qv, FD.PZ, FD.QH, FD.Pa, FD.PH, FD.Lo.UK, List.all_cons, List.all_nil, Bool.and_true, Bool.true_and, Bool.and_false, Bool.false_and, FD.Mz, FD.MN, FD.Lh, FD.Out.AA, FD.Fb, FD.Gx, FD.HV, FD.B3, FD.Mr, FD.HK, FD.P5, FD.MQ, FD.MK, FD.Q0, FD.Pg, FD.HI, FD.Me, FD.Kt, FD.L1, FD.My, FD.MU, FD.Uj, FD.UL, FD.VF, Option.bind_some, Option.map_some, FD.ID, FD.L6, FD.Qh, FD.KG, FD.Mn, FD.Mq, FD.Pt, FD.K0, FD.Qg, FD.LV, FD.Dt.MI, FD.Dt.Mc, FD.Ke, FD.I9, FD.MW, FD.MZ, FD.MY, FD.GW, FD.FL, FD.EW, FD.Jm, List.map_cons, List.map_nil, List.length_cons, List.length_nil, List.cons_append, List.nil_append, List.set_cons_zero, List.set_cons_succ, List.getElem?_cons_zero, List.getElem?_cons_succ, Nat.reduceAdd, Nat.reduceSub, Nat.zero_add, Nat.sub_self, List.replicate_zero, List.replicate_succ, Nat.reduceLeDiff, if_true, if_false, Bool.false_eq_true, Bool.not_true, Bool.not_false, decide_eq_true_eq, FD.Ko, FD.K4, FD.HB, FD.HS, FD.Kk, FD.Qs, FD.J4, FD.JO, FD.Kf, FD.MF, FD.Nc, FD.NI, $xs,*] at $h:ident)
local macro_rules | `(tactic| simp! [$xs,*]) => `(tactic| simp -implicitDefEqProofs only [FD.J6, FD.HE, FD.Nj, FD.I4, FD.IZ, FD.Gg, Bool.true_or, Bool.false_or, FD.Vx, FD.UW, FD.Pc, FD.Qw, FD.JU, FD.J9, FD.Nk, FD.I6, FD.M0, FD.MS, FD.MB, FD.Ki, FD.L3, FD.Cell.Um, FD.Kr, FD.JX, FD.MJ, FD.HQ, FD.Kv, FD.Mw, FD.L0, FD.JS, FD.JQ, FD.PU, FD.KA, FD.IY, FD.IM, FD.Qr, FD.Pe, FD.XO.AA, FD.Out.Yg, FD.Og, FD.Ji, FD.P6, FD.Qd, FD.U3, FD.Ld, FD.Ks, FD.O8, FD.MT, FD.Kj, FD.KD, FD.Lg, FD.M9, FD.HP, FD.UM, FD.PM, FD.LU, FD.Mo, FD.Ql, FD.UH, FD.Ve, FD.Of, FD.U1, FD.UJ, FD.LX, FD.QL, FD.MP, FD.MA, FD.GR, FD.Mv, FD.L5, FD.Vp, FD.Vy, FD.IU, FD.Ni, FD.MX, FD.CB, FD.IP, FD.Km, FD.Nn, FD.Ee, FD.LY, FD.J0, FD.GV, FD.Ek, FD.Qv, FD.PZ, FD.QH, FD.Pa, FD.PH, FD.Lo.UK, List.all_cons, List.all_nil, Bool.and_true, Bool.true_and, Bool.and_false, Bool.false_and, FD.Mz, FD.MN, FD.Lh, FD.Out.AA, FD.Fb, FD.Gx, FD.HV, FD.B3, FD.Mr, FD.HK, FD.P5, FD.MQ, FD.MK, FD.Q0, FD.Pg, FD.HI, FD.Me, FD.Kt, FD.L1, FD.My, FD.MU, FD.Uj, FD.UL, FD.VF, Option.bind_some, Option.map_some, FD.ID, FD.L6, FD.Qh, FD.KG, FD.Mn, FD.Mq, FD.Pt, FD.K0, FD.Qg, FD.LV, FD.Dt.MI, FD.Dt.Mc, FD.Ke, FD.I9, FD.MW, FD.MZ, FD.MY, FD.GW, FD.FL, FD.EW, FD.Jm, List.map_cons, List.map_nil, List.length_cons, List.length_nil, List.cons_append, List.nil_append, List.set_cons_zero, List.set_cons_succ, List.getElem?_cons_zero, List.getElem?_cons_succ, Nat.reduceAdd, Nat.reduceSub, Nat.zero_add, Nat.sub_self, List.replicate_zero, List.replicate_succ, Nat.reduceLeDiff, if_true, if_false, Bool.false_eq_true, Bool.not_true, Bool.not_false, decide_eq_true_eq, FD.Ko, FD.K4, FD.HB, FD.HS, FD.Kk, FD.Qs, FD.J4, FD.JO, FD.Kf, FD.MF, FD.Nc, FD.NI, $xs,*])
local macro_rules | `(tactic| simp_all! [$xs,*]) => `(tactic| simp -implicitDefEqProofs only [FD.J6, FD.HE, FD.Nj, FD.I4, FD.IZ, FD.Gg, Bool.true_or, Bool.false_or, FD.Vx, FD.UW, FD.Pc, FD.Qw, FD.JU, FD.J9, FD.Nk, FD.I6, FD.M0, FD.MS, FD.MB, FD.Ki, FD.L3, FD.Cell.Um, FD.Kr, FD.JX, FD.MJ, FD.HQ, FD.Kv, FD.Mw, FD.L0, FD.JS, FD.JQ, FD.PU, FD.KA, FD.IY, FD.IM, FD.Qr, FD.Pe, FD.XO.AA, FD.Out.Yg, FD.Og, FD.Ji, FD.P6, FD.Qd, FD.U3, FD.Ld, FD.Ks, FD.O8, FD.MT, FD.Kj, FD.KD, FD.Lg, FD.M9, FD.HP, FD.UM, FD.PM, FD.LU, FD.Mo, FD.Ql, FD.UH, FD.Ve, FD.Of, FD.U1, FD.UJ, FD.LX, FD.QL, FD.MP, FD.MA, FD.GR, FD.Mv, FD.L5, FD.Vp, FD.Vy, FD.IU, FD.Ni, FD.MX, FD.CB, FD.IP, FD.Km, FD.Nn, FD.Ee, FD.LY, FD.J0, FD.GV, FD.Ek, FD.Qv, FD.PZ, FD.QH, FD.Pa, FD.PH, FD.Lo.UK, List.all_cons, List.all_nil, Bool.and_true, Bool.true_and, Bool.and_false, Bool.false_and, FD.Mz, FD.MN, FD.Lh, FD.Out.AA, FD.Fb, FD.Gx, FD.HV, FD.B3, FD.Mr, FD.HK, FD.P5, FD.MQ, FD.MK, FD.Q0, FD.Pg, FD.HI, FD.Me, FD.Kt, FD.L1, FD.My, FD.MU, FD.Uj, FD.UL, FD.VF, Option.bind_some, Option.map_some, FD.ID, FD.L6, FD.Qh, FD.KG, FD.Mn, FD.Mq, FD.Pt, FD.K0, FD.Qg, FD.LV, FD.Dt.MI, FD.Dt.Mc, FD.Ke, FD.I9, FD.MW, FD.MZ, FD.MY, FD.GW, FD.FL, FD.EW, FD.Jm, List.map_cons, List.map_nil, List.length_cons, List.length_nil, List.cons_append, List.nil_append, List.set_cons_zero, List.set_cons_succ, List.getElem?_cons_zero, List.getElem?_cons_succ, Nat.reduceAdd, Nat.reduceSub, Nat.zero_add, Nat.sub_self, List.replicate_zero, List.replicate_succ, Nat.reduceLeDiff, if_true, if_false, Bool.false_eq_true, Bool.not_true, Bool.not_false, decide_eq_true_eq, FD.Ko, FD.K4, FD.HB, FD.HS, FD.Kk, FD.Qs, FD.J4, FD.JO, FD.Kf, FD.MF, FD.Nc, FD.NI, $xs,*])
local macro_rules | `(tactic| dsimp! [$xs,*]) => `(tactic| simp -implicitDefEqProofs only [FD.J6, FD.HE, FD.Nj, FD.I4, FD.IZ, FD.Gg, Bool.true_or, Bool.false_or, FD.Vx, FD.UW, FD.Pc, FD.Qw, FD.JU, FD.J9, FD.Nk, FD.I6, FD.M0, FD.MS, FD.MB, FD.Ki, FD.L3, FD.Cell.Um, FD.Kr, FD.JX, FD.MJ, FD.HQ, FD.Kv, FD.Mw, FD.L0, FD.JS, FD.JQ, FD.PU, FD.KA, FD.IY, FD.IM, FD.Qr, FD.Pe, FD.XO.AA, FD.Out.Yg, FD.Og, FD.Ji, FD.P6, FD.Qd, FD.U3, FD.Ld, FD.Ks, FD.O8, FD.MT, FD.Kj, FD.KD, FD.Lg, FD.M9, FD.HP, FD.UM, FD.PM, FD.LU, FD.Mo, FD.Ql, FD.UH, FD.Ve, FD.Of, FD.U1, FD.UJ, FD.LX, FD.QL, FD.MP, FD.MA, FD.GR, FD.Mv, FD.L5, FD.Vp, FD.Vy, FD.IU, FD.Ni, FD.MX, FD.CB, FD.IP, FD.Km, FD.Nn, FD.Ee, FD.LY, FD.J0, FD.GV, FD.Ek, FD.Qv, FD.PZ, FD.QH, FD.Pa, FD.PH, FD.Lo.UK, List.all_cons, List.all_nil, Bool.and_true, Bool.true_and, Bool.and_false, Bool.false_and, FD.Mz, FD.MN, FD.Lh, FD.Out.AA, FD.Fb, FD.Gx, FD.HV, FD.B3, FD.Mr, FD.HK, FD.P5, FD.MQ, FD.MK, FD.Q0, FD.Pg, FD.HI, FD.Me, FD.Kt, FD.L1, FD.My, FD.MU, FD.Uj, FD.UL, FD.VF, Option.bind_some, Option.map_some, FD.L6, FD.Qh, FD.KG, FD.Mn, FD.Mq, FD.Pt, FD.K0, FD.Qg, FD.LV, FD.Dt.MI, FD.Dt.Mc, FD.Ke, FD.I9, FD.MW, FD.MZ, FD.MY, FD.GW, FD.FL, FD.EW, FD.Jm, List.map_cons, List.map_nil, List.length_cons, List.length_nil, List.cons_append, List.nil_append, List.set_cons_zero, List.set_cons_succ, List.getElem?_cons_zero, List.getElem?_cons_succ, Nat.reduceAdd, Nat.reduceSub, Nat.zero_add, Nat.sub_self, List.replicate_zero, List.replicate_succ, Nat.reduceLeDiff, if_true, if_false, Bool.false_eq_true, Bool.not_true, Bool.not_false, decide_eq_true_eq, FD.Ko, FD.K4, FD.HB, FD.HS, FD.Kk, FD.Qs, FD.J4, FD.JO, FD.Kf, FD.MF, FD.Nc, FD.NI, $xs,*])
namespace Lk16
open PySem L2 FD SX TL
variable {K:PySem.W.Frag} {cs:Cs}
structure Bx where
 c:Int
 n:Nat
 g:Bool
def JF(b:Bx):Cell:=.lst [.int b.c,.int b.n,.bl b.g]
theorem JY{i j:Int}(h:-(2 ^ 64) < j∧j < 2 ^ 64):gI HX (· * ·) (.int i) (.int j)=some (.int (i * j)):=by
 have e:HX i j=true:=by
  unfold HX
  rw [show jl i j=true from decide_eq_true (.inr h),Bool.or_true]
 rw [ID,if_pos e]
theorem Tb{i j:Int}(hj:0 < j)(h2:j < 2 ^ 100):gI Ry Int.fdiv (.int i) (.int j)=some (.int (i.fdiv j)):=by
 rw [ID,if_pos]
 refine decide_eq_true ⟨by omega,?_⟩
 have z:j.natAbs≠0:=by omega
 have:j.natAbs.log2 < 100:=(Nat.log2_lt z).mpr (by omega)
 omega
theorem NQ{i j:Int}(hj:0 < j):gI ZA Int.fmod (.int i) (.int j)=some (.int (i.fmod j)):=by
 have h:ZA i j=true:=decide_eq_true (by omega)
 rw [ID,if_pos h]
theorem md{s:Int}(hs:0 < s)(i:Int):0≤i.fmod s∧i.fmod s < s:=⟨Int.fmod_nonneg_of_pos _ hs,Int.fmod_lt_of_pos _ hs⟩
def f1(c:Int)(n:Nat):Int:=(c * (48271 + 69621 * ((n:Int) + 1))).fmod 2147483647
def f2(c:Int)(n:Nat):Int:=(f1 c n * f1 c n + f1 c n * ((n:Int) + 1 + 1013)).fmod 2147483629
def f3(c:Int)(n:Nat):Int:=(f2 c n * ((f2 c n).fdiv 7 + 40692)).fmod 2147483587
theorem i6{R:List Cell}{j:Nat}{b:Bx}(hb:R[j]? = some (JF b))(hn:b.n≤1000000000){s:Int}(h1:1≤s)(h2:s < 2 ^ 40):
  ∃ (v:Int) (b':Bx),Ap K cs [.ad j,.int s] R=.ok (.int v) (R.set j (JF b'))∧0≤v∧v < s∧b'.n=b.n + 1:=by
 obtain ⟨c,n,g⟩:=b
 simp only at hn
 have hj:j < R.length:=by
  rcases Nat.lt_or_ge j R.length with h | h
  ·exact h
  ·rw [List.getElem?_eq_none h] at hb; cases hb
 have hs:∀ c,(R.set j c)[j]? = some c:=fun c=>List.getElem?_set_self hj
 have hb:R[j]? = some (.lst [.int c,.int n,.bl g]):=hb
 have x0:ixN 3 0=some 0:=rfl
 have x1:ixN 3 1=some 1:=rfl
 have x2:ixN 3 2=some 2:=rfl
 have en:(n:Int) + 1=((n + 1:Nat):Int):=by omega
 have sp:0 < s:=by omega
 have ed:∀ cells,Ap K cs [.ad j,.int s] cells=runM 6 (Iq K cs) [.ad j,.int s] cells:=fun _=>GA rfl
 rw [ed]
 unfold Iq
 cases g with
 | true=>
  refine ⟨c.fmod s,⟨c.fdiv s,n + 1,true⟩,?_,(md sp _).1,(md sp _).2,rfl⟩
  have d1:gI Ry Int.fdiv (.int c) (.int s)=some (.int (c.fdiv s)):=Tb sp (by omega)
  simp! [hb,hs,List.set_set,x0,x1,x2,NQ sp,d1]
  rfl
 | false=>
  refine ⟨((f3 c n).fdiv 16 + 5 * ((n:Int) + 1) + ((n:Int) + 1).fdiv 3).fmod s,⟨c,n + 1,false⟩,?_,(md sp _).1,(md sp _).2,rfl⟩
  have k1:=md (s:=2147483647) (by decide) (c * (48271 + 69621 * ((n:Int) + 1)))
  have k1':0≤f1 c n∧f1 c n < 2147483647:=k1
  have k2':0≤f2 c n∧f2 c n < 2147483629:=md (by decide) _
  have k3:0≤(f2 c n).fdiv 7∧(f2 c n).fdiv 7 < 2147483629:=by
   rw [Int.fdiv_eq_ediv_of_nonneg _ (by decide)]
   omega
  have e1:gI HX (· * ·) (.int 69621) (.int ((n:Int) + 1))=some (.int (69621 * ((n:Int) + 1))):=JY (by omega)
  have e2:gI HX (· * ·) (.int c) (.int (48271 + 69621 * ((n:Int) + 1)))=some (.int (c * (48271 + 69621 * ((n:Int) + 1)))):=JY (by omega)
  have q1:gI ZA Int.fmod (.int (c * (48271 + 69621 * ((n:Int) + 1)))) (.int 2147483647)=some (.int (f1 c n)):=NQ (by decide)
  have e3:gI HX (· * ·) (.int (f1 c n)) (.int (f1 c n))=some (.int (f1 c n * f1 c n)):=JY (by omega)
  have e4:gI HX (· * ·) (.int (f1 c n)) (.int ((n:Int) + 1 + 1013))=some (.int (f1 c n * ((n:Int) + 1 + 1013))):=JY (by omega)
  have q2:gI ZA Int.fmod (.int (f1 c n * f1 c n + f1 c n * ((n:Int) + 1 + 1013))) (.int 2147483629)=some (.int (f2 c n)):=NQ (by decide)
  have d7:gI Ry Int.fdiv (.int (f2 c n)) (.int 7)=some (.int ((f2 c n).fdiv 7)):=Tb (by decide) (by decide)
  have e5:gI HX (· * ·) (.int (f2 c n)) (.int ((f2 c n).fdiv 7 + 40692))=some (.int (f2 c n * ((f2 c n).fdiv 7 + 40692))):=JY (by omega)
  have q3:gI ZA Int.fmod (.int (f2 c n * ((f2 c n).fdiv 7 + 40692))) (.int 2147483587)=some (.int (f3 c n)):=NQ (by decide)
  have d16:gI Ry Int.fdiv (.int (f3 c n)) (.int 16)=some (.int ((f3 c n).fdiv 16)):=Tb (by decide) (by decide)
  have e6:gI HX (· * ·) (.int 5) (.int ((n:Int) + 1))=some (.int (5 * ((n:Int) + 1))):=JY (by omega)
  have d3:gI Ry Int.fdiv (.int ((n:Int) + 1)) (.int 3)=some (.int (((n:Int) + 1).fdiv 3)):=Tb (by decide) (by decide)
  simp! [hb,hs,List.set_set,x0,x1,x2,e1,e2,e3,e4,e5,e6,q1,q2,q3,d7,d16,d3,NQ sp]
  rfl
theorem XQ(ns:List Int){k:Nat}(hk:k≤1000)(hl:ns.length≤63)(R:List Cell):
  ∃ b:Bx,BL K cs [.fls (ns.map .int),.int k] R=.ok (.ad R.length) (R ++ [JF b])∧b.n=k:=by
 have ed:BL K cs [.fls (ns.map .int),.int k] R=runM 3 (JD K cs) [.fls (ns.map .int),.int k] R:=GA rfl
 rw [ed]
 unfold JD
 have gl:CI [.fls (ns.map Dt.int)]=some (.int ns.length):=by rw [Z8,List.length_map]
 have p10:gI Zk (fun i j=>i ^ j.toNat) (.int 10) (.int 18)=some (.int (10 ^ 18)):=by
  rw [ID,if_pos (by decide)]
  rfl
 by_cases h:(k:Int) < (ns.length:Int)
 ·obtain ⟨x,hx,_⟩:=P0 (xs:=ns) (i:=(k:Int)) (by omega) h
  have hat:atI (ns.map Dt.int) (k:Int)=some (.int x):=by rw [O2,hx]; rfl
  refine ⟨⟨x,k,decide ((10:Int) ^ 18≤x)⟩,?_,rfl⟩
  simp! [gl,h,decide_true,hat,p10]
  rfl
 ·obtain ⟨ys,hy⟩:=bI Dt.int ns none (some 63)
  have gs:RD [.lst (ys.map Dt.int)]=some (.int ys.sum):=by
   show (JG (ys.map Dt.int)).map _=_
   rw [I8]
   rfl
  have e1:gI HX (· * ·) (.int 7) (.int (k:Int))=some (.int (7 * (k:Int))):=JY (by omega)
  have e2:∀ i:Int,gI HX (· * ·) (.int i) (.int (48271 + 7 * (k:Int)))=some (.int (i * (48271 + 7 * (k:Int)))):=fun i=>JY (by omega)
  refine ⟨⟨(ys.sum * (48271 + 7 * (k:Int))).fmod 1000003,k,decide ((10:Int) ^ 18≤(ys.sum * (48271 + 7 * (k:Int))).fmod 1000003)⟩,?_,rfl⟩
  simp! [gl,h,decide_false,hy,gs,e1,e2,NQ (by decide:(0:Int) < 1000003),p10]
  rfl
structure At (R R':List Cell) (j:Nat) (b b':Bx) (k:Nat):Prop where
 fW:R[j]? = some (JF b)
 eq:R'=R.set j (JF b')
 le:b.n≤b'.n
 up:b'.n≤b.n + k
theorem JR{α:Type}{R:List α}{j:Nat}{x:α}(h:R[j]? = some x):j < R.length:=by
 rcases Nat.lt_or_ge j R.length with z | z
 ·exact z
 ·rw [List.getElem?_eq_none z] at h; cases h
theorem At.NR{R R':List Cell}{j k:Nat}{b b':Bx}(h:At R R' j b b' k):R'[j]? = some (JF b'):=by rw [h.eq]; exact List.getElem?_set_self (JR h.fW)
theorem At.len{R R':List Cell}{j k:Nat}{b b':Bx}(h:At R R' j b b' k):R'.length=R.length:=by rw [h.eq,List.length_set]
theorem At.trans{R R' R'':List Cell}{j k m:Nat}{b b' b'':Bx}(h:At R R' j b b' k)(h':At R' R'' j b' b'' m):At R R'' j b b'' (k + m):=
 ⟨h.fW,by rw [h'.eq,h.eq,List.set_set],Nat.le_trans h.le h'.le,by have:=h.up; have:=h'.up; omega⟩
theorem At.mono{R R':List Cell}{j k m:Nat}{b b':Bx}(h:At R R' j b b' k)(hm:k≤m):At R R' j b b' m:=⟨h.fW,h.eq,h.le,by have:=h.up; omega⟩
theorem At.refl{R:List Cell}{j:Nat}{b:Bx}(h:R[j]? = some (JF b)):At R R j b b 0:=⟨h,by
 refine (List.ext_getElem? fun i=>?_).symm
 by_cases e:j=i
 ·rw [← e,List.getElem?_set_self (JR h),h]
 ·exact List.getElem?_set_ne e,Nat.le_refl _,Nat.le_refl _⟩
theorem At.ne{R R':List Cell}{j k i:Nat}{b b':Bx}(h:At R R' j b b' k)(hi:i≠j):R'[i]? = R[i]?:=by rw [h.eq]; exact List.getElem?_set_ne fun e=>hi e.symm
theorem Jq{R:List Cell}{j:Nat}{b:Bx}(hb:R[j]? = some (JF b))(hn:b.n≤1000000000){s:Int}(h1:1≤s)(h2:s < 2 ^ 40):
  ∃ (v:Int) (R':List Cell) (b':Bx),Ap K cs [.ad j,.int s] R=.ok (.int v) R'∧0≤v∧v < s∧At R R' j b b' 1:=by
 obtain ⟨v,b',e,v0,v1,n1⟩:=i6 (K:=K) (cs:=cs) hb hn h1 h2
 exact ⟨v,_,b',e,v0,v1,hb,rfl,by omega,by omega⟩
end Lk16
namespace Lk16
open PySem L2 FD SX TL Nf
variable {K:PySem.W.Frag} {cs:Cs}
theorem Xu(l:Kn):(S l).cps.toList=l:=by simp [S]
theorem kX(x:Str):S x.cps.toList=x:=by
 apply ext_tl
 simp [S,TL.tl]
def sD(l:Kn):Dt:=.str (S l)
def sg(x:String):Kn:=(Str.ofString x).cps.toList
theorem k8(x:String):Dt.str (Str.ofString x)=sD (sg x):=by unfold sD sg; rw [kX]
theorem Ny(x:String):Str.ofString x=S (sg x):=by unfold sg; rw [kX]
structure Nm (k:Kn):Prop where
 ne:k≠[]
 le:k.length≤30
 ch:∀ c∈k,c < 128
def nmB(k:Kn):Bool:=decide (k≠[]) && decide (k.length≤30) && k.all fun c=>decide (c < 128)
theorem lK{k:Kn}(h:nmB k=true):Nm k:=by
 unfold nmB at h
 rw [Bool.and_eq_true,Bool.and_eq_true,decide_eq_true_eq,decide_eq_true_eq,List.all_eq_true] at h
 exact ⟨h.1.1,h.1.2,fun c hc=>of_decide_eq_true (h.2 c hc)⟩
theorem bB{a b:Kn}(h:a.length + b.length≤16777216):AV (.str (S a)) (.str (S b))=some (.str (S (a ++ b))):=by
 rw [ZR,S_len,S_len,if_pos h,S_cat]
theorem g_ix{a:Kn}{i:Int}{c:Nat}(h:a.length≤16777216)(hc:atI a i=some c):Bl (.str (S a)) (.int i)=some (.str (S [c])):=by
 rw [Xf,S_len,if_pos h,Xu,hc]
 rfl
theorem a8{xs:Kn}{i:Int}(h0:0≤i)(h1:i < (xs.length:Int))(hl:xs.length≤1000):∃ c∈xs,Bl (.str (S xs)) (.int i)=some (.str (S [c])):=by
 obtain ⟨c,hc,hm⟩:=P0 h0 h1
 exact ⟨c,List.mem_of_getElem? hm,g_ix (by omega) hc⟩
theorem ZM{xs:List Kn}{i:Int}(h0:0≤i)(h1:i < (xs.length:Int)):∃ z∈xs,atI (xs.map sD) i=some (.str (S z)):=by
 obtain ⟨z,hz,hm⟩:=P0 h0 h1
 exact ⟨z,List.mem_of_getElem? hm,by rw [O2,hz]; rfl⟩
def Rl:Kn:=sg "abcdefghijklmnopqrstuvwxyz"
def decS:Kn:=sg "0123456789."
def aD:Kn:=Rl ++ decS
theorem XH:Rl.length=26:=by decide
theorem Xl:aD.length=37:=by decide
theorem cJ:∀ c∈aD,c < 128:=by decide
theorem dY:∀ c∈Rl,c < 128:=by decide
def wds:List Kn:=["b","a","a.2","ab","cut","a.3","m1","z.9z"].map sg
theorem j8:[Dt.str "b",Dt.str "a",Dt.str "a.2",Dt.str "ab",Dt.str "cut",Dt.str "a.3",Dt.str "m1",Dt.str "z.9z"]=wds.map sD:=by
 simp only [wds,List.map_cons,List.map_nil]
 repeat' rw [← k8]
theorem iL:∀ z∈wds,nmB z=true:=by decide +kernel
theorem Hl(n:Nat):(JL 0 n).length=n:=JP 0 n
theorem Sv{j:Nat}{d0:Option Lo}:∀ (ds:List Dt) (z:Kn) (x:Option Lo) (R:List Cell) (b:Bx),R[j]? = some (JF b)→b.n + ds.length≤1000000000→z.length + ds.length≤1000→∃ (t:Kn) (x':Option Lo) (R':List Cell) (b':Bx),At R R' j b b' ds.length∧t.length=ds.length∧(∀ c∈t,c∈aD) ∧
  Bm (Ai 4) (BO 2 (FD.x2 (xP (Aa 2)) (FD.x2 (xP (FD.e2 (Aa 1) (eC (.str "0123456789.")) AV)) (Az 5 (Ap K cs) (xP (Ab (Aa 0) (Ab (eC (.int 37)) Ag))) [0]) Bl) AV) [2,1]) ds [some (.sh (.ad j)),some (.sh (.str (S Rl))),some (.sh (.str (S z))),d0,x,some (.mh R)] =
   .ok .nx [some (.sh (.ad j)),some (.sh (.str (S Rl))),some (.sh (.str (S (z ++ t)))),d0,x',some (.mh R')]
 | [],z,x,R,b,hb,_,_=>⟨[],x,R,b,At.refl hb,rfl,(fun c h=>nomatch h),by rw [List.append_nil]; rfl⟩
 | d :: ds,z,x,R,b,hb,hn,hz=>by
  simp only [List.length_cons] at hn hz
  obtain ⟨v,R1,b1,t1,v0,v1,s1⟩:=Jq (K:=K) (cs:=cs) hb (by omega) (s:=37) (by decide) (by decide)
  obtain ⟨c,hc,hix⟩:=a8 (xs:=aD) v0 (by rw [Xl]; exact v1) (by rw [Xl]; decide)
  have:=s1.up
  obtain ⟨t,x',R',b',s2,hl,ht,e⟩:=Sv (j:=j) (d0:=d0) ds (z ++ [c]) (some (.sh d)) R1 b1 s1.NR (by omega) (by rw [List.length_append,List.length_singleton]; omega)
  refine ⟨c :: t,x',R',b',?_,by rw [List.length_cons,hl]; rfl,?_,?_⟩
  ·rw [List.length_cons,Nat.add_comm]
   exact s1.trans s2
  ·intro y hy
   rcases List.mem_cons.mp hy with rfl | hy
   ·exact hc
   ·exact ht y hy
  ·rw [BX]
   have gs:AV (.str (S Rl)) (.str (Str.ofString "0123456789."))=some (.str (S aD)):=by
    rw [Ny]
    exact bB (by decide)
   have gc:AV (.str (S z)) (.str (S [c]))=some (.str (S (z ++ [c]))):=bB (by simp only [List.length_singleton]; omega)
   simp! [gs,t1,hix,gc]
   rw [show z ++ c :: t=z ++ [c] ++ t by simp]
   exact e
theorem jm{R:List Cell}{j:Nat}{b:Bx}(hb:R[j]? = some (JF b))(hn:b.n≤900000000):
  ∃ (z:Kn) (R':List Cell) (b':Bx),Fm K cs [.ad j] R=.ok (.str (S z)) R'∧Nm z∧At R R' j b b' 20:=by
 have ed:Fm K cs [.ad j] R=runM 5 (Iu K cs) [.ad j] R:=GA rfl
 rw [ed]
 unfold Iu
 obtain ⟨v,R1,b1,t1,v0,v1,s1⟩:=Jq (K:=K) (cs:=cs) hb (by omega) (s:=3) (by decide) (by decide)
 have u1:=s1.up
 by_cases hv:0 < v
 ·obtain ⟨w,R2,b2,t2,w0,w1,s2⟩:=Jq (K:=K) (cs:=cs) s1.NR (by omega) (s:=8) (by decide) (by decide)
  obtain ⟨z,hz,hix⟩:=ZM (xs:=wds) w0 w1
  rw [← j8] at hix
  refine ⟨z,R2,b2,?_,lK (iL z hz),(s1.trans s2).mono (by decide)⟩
  simp! [t1,hv,decide_true,t2,hix]
 ·obtain ⟨w,R2,b2,t2,w0,w1,s2⟩:=Jq (K:=K) (cs:=cs) s1.NR (by omega) (s:=26) (by decide) (by decide)
  have u2:=s2.up
  obtain ⟨c,hc,hix⟩:=a8 (xs:=Rl) w0 (by rw [XH]; exact w1) (by rw [XH]; decide)
  obtain ⟨y,R3,b3,t3,y0,y1,s3⟩:=Jq (K:=K) (cs:=cs) s2.NR (by omega) (s:=4) (by decide) (by decide)
  have u3:=s3.up
  obtain ⟨x,R4,b4,t4,x0,x1,s4⟩:=Jq (K:=K) (cs:=cs) s3.NR (by omega) (s:=8) (by decide) (by decide)
  have u4:=s4.up
  obtain ⟨q,hq,q0,q1⟩:∃ q:Int,q=(if x=5 then 13 else y)∧0≤q∧q≤13:=by
   refine ⟨_,rfl,?_,?_⟩ <;> split <;> omega
  obtain ⟨t,x',R5,b5,s5,hl,ht,e⟩:=Sv (K:=K) (cs:=cs) (d0:=some (.sh (.int q))) (JL 0 q.toNat) [c] none R4 b4 s4.NR (by rw [Hl]; omega) (by rw [Hl]; simp only [List.length_singleton]; omega)
  rw [Hl] at hl s5
  refine ⟨[c] ++ t,R5,b5,?_,?_,((((s1.trans s2).trans s3).trans s4).trans s5).mono (by omega)⟩
  ·have hs:Fi q=true:=decide_eq_true (by omega)
   have hlet:Str.ofString "abcdefghijklmnopqrstuvwxyz" = S Rl:=Ny _
   have hf:∀ ρ:FD.Env,ρ=[some (.sh (.ad j)),some (.sh (.str (S Rl))),some (.sh (.str (S [c]))),some (.sh (.int q)),none,some (.mh R4)]→AW (Ai 4) (Dr (Ab (Aa 3) Ag)) [] (BO 2 (FD.x2 (xP (Aa 2)) (FD.x2 (xP (FD.e2 (Aa 1) (eC (.str "0123456789.")) AV)) (Az 5 (Ap K cs) (xP (Ab (Aa 0) (Ab (eC (.int 37)) Ag))) [0]) Bl) AV) [2,1]) ρ=.ok .nx [some (.sh (.ad j)),some (.sh (.str (S Rl))),some (.sh (.str (S ([c] ++ t)))),some (.sh (.int q)),x',some (.mh R5)]:=fun ρ hρ=>by
    subst hρ
    rw [BY]
    simp! [Jz,hs,e]
   by_cases h5:x=5
   ·rw [if_pos h5] at hq
    subst hq h5
    simp! [hlet,t1,hv,decide_false,t2,hix,t3,t4,beq_self_eq_true,hf]
   ·rw [if_neg h5] at hq
    subst hq
    have h5':(x == (5:Int))=false:=beq_eq_false_iff_ne.mpr h5
    simp! [hlet,t1,hv,decide_false,t2,hix,t3,t4,h5',hf]
  ·refine ⟨by simp,by simp only [List.length_append,List.length_singleton]; omega,fun y hy=>?_⟩
   rcases List.mem_append.mp hy with hy | hy
   ·rw [List.mem_singleton.mp hy]; exact dY c hc
   ·exact cJ y (ht y hy)
theorem Kd{q:Int}(h0:0≤q)(h1:q≤100000):Fi q=true:=decide_eq_true (by omega)
def nt(k:Nat):Kn:=sg (toString (k:Int))
theorem kz:∀ n:Nat,n < 23→((List.range n).map nt).Nodup:=by decide +kernel
theorem cn:∀ k:Nat,k < 22→Ll [.int (k:Int)]=some (.str (S (nt k)))∧(nt k).length≤2∧∀ c∈nt k,c < 128:=by
 have h:∀ k:Nat,k < 22→((Int.natAbs (k:Int)).log2 < 1920)∧((sg (toString (k:Int))).length≤2∧∀ c∈sg (toString (k:Int)),c < 128):=by decide +kernel
 intro k hk
 obtain ⟨h1,h2,h3⟩:=h k hk
 refine ⟨?_,h2,h3⟩
 rw [af,if_pos h1]
 show some (Dt.str (Str.ofString _))=_
 rw [Ny]
 rfl
theorem S7(k:Kn):∀ N:List Kn,bY (.str (S k)) (N.map sD)=decide (k∈N)
 | []=>rfl
 | a :: N=>by
  have ih:=S7 k N
  show (eqF (sD a) (.str (S k)) || bY (.str (S k)) (N.map sD))=_
  rw [ih]
  have e1:eqF (sD a) (.str (S k))=decide (k=a):=by
   show (S a == S k)=_
   by_cases h:k=a
   ·rw [decide_eq_true h,h]
    exact beq_self_eq_true _
   ·rw [decide_eq_false h]
    exact beq_eq_false_iff_ne.mpr fun z=>h (Nf.S_inj z).symm
  rw [e1]
  simp [List.mem_cons]
theorem dj(N:List Kn):(N.map sD).all Dt.flat=true:=by
 rw [List.all_map]
 exact List.all_eq_true.mpr fun _ _=>rfl
theorem LS(k:Kn)(N:List Kn):LL (.str (S k)) (.lst (N.map sD))=some (bY (.str (S k)) (N.map sD)):=by
 show ((some (N.map sD)).bind fun ds=>if (Dt.str (S k)).flat=true∧ds.all Dt.flat=true then some (bY (.str (S k)) ds) else none)=_
 rw [Option.bind_some,if_pos ⟨rfl,dj N⟩]
theorem QD{N:List Kn}:∀ (l:List Nat) (x:Option Lo),(∀ k∈l,k < 22) →
  (∃ x',(∀ k∈l,sg "n" ++ nt k∈N)∧Bm (Ai 1) (BR (FD.t2 (FD.e2 (eC (.str "n")) (eB Ll (Ab (Aa 1) Ag)) AV) (Aa 0) (Dq LL)) (AE (FD.e2 (eC (.str "n")) (eB Ll (Ab (Aa 1) Ag)) AV) []) Ar) (l.map fun k:Nat=>.int (k:Int)) [some (.sh (.lst (N.map sD))),x]=.ok .nx [some (.sh (.lst (N.map sD))),x']) ∨
  ∃ z ρ',Nm z∧z∉N∧Bm (Ai 1) (BR (FD.t2 (FD.e2 (eC (.str "n")) (eB Ll (Ab (Aa 1) Ag)) AV) (Aa 0) (Dq LL)) (AE (FD.e2 (eC (.str "n")) (eB Ll (Ab (Aa 1) Ag)) AV) []) Ar) (l.map fun k:Nat=>.int (k:Int)) [some (.sh (.lst (N.map sD))),x]=.ok (.rt (.str (S z))) ρ'
 | [],x,_=>.inl ⟨x,(fun k hk=>nomatch hk),rfl⟩
 | k :: l,x,h=>by
  obtain ⟨ht,tl,tc⟩:=cn k (h k List.mem_cons_self)
  obtain ⟨t,et⟩:∃ t,t=nt k:=⟨_,rfl⟩
  rw [← et] at ht tl tc
  have hn:Str.ofString "n" = S (sg "n"):=Ny _
  have l1:(sg "n").length=1:=by decide +kernel
  have gc:AV (.str (Str.ofString "n")) (.str (S t))=some (.str (S (sg "n" ++ t))):=by
   rw [hn]
   exact bB (by omega)
  rw [List.map_cons,BX]
  cases hi:bY (.str (S (sg "n" ++ t))) (N.map sD) with
  | true=>
   rcases QD (N:=N) l (some (.sh (.int k))) (fun k hk=>h k (List.mem_cons_of_mem _ hk)) with ⟨x',ha,e⟩ | ⟨z,ρ',hz,hzN,e⟩
   ·refine .inl ⟨x',fun q hq=>?_,?_⟩
    ·rcases List.mem_cons.mp hq with eq | hq
     ·rw [eq,← et]
      rw [S7] at hi
      exact of_decide_eq_true hi
     ·exact ha q hq
    simp! [ht,gc,LS,hi,e]
   ·refine .inr ⟨z,ρ',hz,hzN,?_⟩
    simp! [ht,gc,LS,hi,e]
  | false=>
   refine .inr ⟨sg "n" ++ t,[some (.sh (.lst (N.map sD))),some (.sh (.int k))],⟨by simp [show sg "n" = [110] by decide +kernel],?_,fun c hc=>?_⟩,?_,?_⟩
   ·rw [List.length_append,l1]; omega
   ·rcases List.mem_append.mp hc with hc | hc
    ·rw [show sg "n" = [110] by decide +kernel,List.mem_singleton] at hc; omega
    ·exact tc c hc
   ·rw [S7] at hi
    exact of_decide_eq_false hi
   ·simp! [ht,gc,LS,hi]
theorem KR{α:Type}[BEq α][LawfulBEq α]:∀ {l m:List α},l.Nodup→(∀ x∈l,x∈m)→l.length≤m.length
 | [],m,_,_=>Nat.zero_le _
 | a :: l,m,n,h=>by
  obtain ⟨n1,n2⟩:=List.nodup_cons.mp n
  have ha:=h a List.mem_cons_self
  have i:=KR (l:=l) (m:=m.erase a) n2 fun x hx=>by
   have:x≠a:=fun e=>n1 (e ▸ hx)
   exact (List.mem_erase_of_ne this).mpr (h x (List.mem_cons_of_mem _ hx))
  rw [List.length_erase_of_mem ha] at i
  have:0 < m.length:=List.length_pos_of_mem ha
  rw [List.length_cons]
  omega
theorem eM{N:List Kn}(hl:N.length≤20):∃ z,Nm z∧z∉N∧ED K cs [.lst (N.map sD)]=.ok (.str (S z)):=by
 have ed:ED K cs [.lst (N.map sD)]=AB 2 (Hk K cs) [.lst (N.map sD)]:=AJ rfl
 rw [ed]
 unfold Hk
 have gl:CI [.lst (N.map sD)]=some (.int (N.length:Nat)):=by rw [KL,List.length_map]
 have hs:Fi ((N.length:Int) + 1)=true:=Kd (by omega) (by omega)
 have et:((N.length:Int) + 1).toNat=N.length + 1:=by omega
 have er:JL 0 (N.length + 1)=(List.range (N.length + 1)).map fun k:Nat=>.int (k:Int):=by
  unfold JL
  exact List.map_congr_left fun k _=>by rw [Int.zero_add]
 have hq:AW (Ai 1) (Dr (Ab (e2 (eB CI (Ab (Aa 0) Ag)) (eC (.int 1)) AV) Ag)) [] (BR (FD.t2 (FD.e2 (eC (.str "n")) (eB Ll (Ab (Aa 1) Ag)) AV) (Aa 0) (Dq LL)) (AE (FD.e2 (eC (.str "n")) (eB Ll (Ab (Aa 1) Ag)) AV) []) Ar) [some (.sh (.lst (N.map sD))),none]=Bm (Ai 1) (BR (FD.t2 (FD.e2 (eC (.str "n")) (eB Ll (Ab (Aa 1) Ag)) AV) (Aa 0) (Dq LL)) (AE (FD.e2 (eC (.str "n")) (eB Ll (Ab (Aa 1) Ag)) AV) []) Ar) ((List.range (N.length + 1)).map fun k:Nat=>.int (k:Int)) [some (.sh (.lst (N.map sD))),none]:=by
  rw [BY]
  simp! [gl,Jz,hs,et,er]
 rcases QD (N:=N) (List.range (N.length + 1)) none (fun k hk=>by have:=List.mem_range.mp hk; omega) with ⟨x',ha,e⟩ | ⟨z,ρ',hz,hzN,e⟩
 ·have h1:=kz (N.length + 1) (by omega)
  have h2:((List.range (N.length + 1)).map fun k=>sg "n" ++ nt k).Nodup:=by
   have e2:((List.range (N.length + 1)).map fun k=>sg "n" ++ nt k)=((List.range (N.length + 1)).map nt).map (sg "n" ++ ·):=by rw [List.map_map]; rfl
   rw [e2]
   exact List.Pairwise.map _ (fun a b h z=>h (List.append_cancel_left z)) h1
  have h3:=KR h2 fun x hx=>by
   obtain ⟨k,hk,rfl⟩:=List.mem_map.mp hx
   exact ha k hk
  rw [List.length_map,List.length_range] at h3
  omega
 ·refine ⟨z,hz,hzN,?_⟩
  rw [e] at hq
  simp! [hq]
theorem PQ{j:Nat}{d1:Option Lo}:∀ (ds:List Dt) (N:List Kn) (x y:Option Lo) (R:List Cell) (b:Bx),R[j]? = some (JF b)→b.n + 20 * ds.length≤900000000→N.length + ds.length≤20→(∀ z∈N,Nm z)→N.Nodup→∃ (N':List Kn) (x' y':Option Lo) (R':List Cell) (b':Bx),N'.Nodup∧At R R' j b b' (20 * ds.length)∧N'.length=N.length + ds.length∧(∀ z∈N',Nm z) ∧
  Bm (Ai 3) (Ao (BO 4 (Az 5 (Fm K cs) (xP (Ab (Aa 0) Ag)) [0]) [])
  (Ao (BR (FD.t2 (Aa 4) (Aa 2) LL) (B2 4 (Aj (ED K cs) (Ab (Aa 2) Ag)) [2]) Ar)
  (Du 2 (Aa 4) [4]))) ds [some (.sh (.ad j)),d1,some (.ol (N.map sD)),x,y,some (.mh R)]=.ok .nx [some (.sh (.ad j)),d1,some (.ol (N'.map sD)),x',y',some (.mh R')]
 | [],N,x,y,R,b,hb,_,_,hN,nd=>⟨N,x,y,R,b,nd,At.refl hb,rfl,hN,rfl⟩
 | d :: ds,N,x,y,R,b,hb,hn,hz,hN,nd=>by
  simp only [List.length_cons] at hn hz
  obtain ⟨z,R1,b1,t1,hzn,s1⟩:=jm (K:=K) (cs:=cs) hb (by omega)
  have u1:=s1.up
  obtain ⟨z',hz',hzN,t2⟩:=eM (K:=K) (cs:=cs) (N:=N) (by omega)
  obtain ⟨q,hq,hqn,hqN⟩:∃ q:Kn,q=(if bY (.str (S z)) (N.map sD)=true then z' else z)∧Nm q∧q∉N:=⟨_,rfl,by split <;> assumption,by
   split
   ·exact hzN
   ·rename_i h
    rw [S7] at h
    exact fun z=>h (decide_eq_true z)⟩
  obtain ⟨N',x',y',R',b',nd',s2,hl,hN',e⟩:=PQ (j:=j) (d1:=d1) ds (N ++ [q]) (some (.sh d)) (some (.sh (.str (S q)))) R1 b1 s1.NR (by omega) (by rw [List.length_append,List.length_singleton]; omega) (fun w hw=>by
   rcases List.mem_append.mp hw with hw | hw
   ·exact hN w hw
   ·rw [List.mem_singleton.mp hw]; exact hqn) (List.nodup_append.mpr ⟨nd,(List.nodup_cons.mpr ⟨(fun z=>nomatch z),List.nodup_nil⟩),fun a ha c hc e=>hqN (by rw [← List.mem_singleton.mp hc,← e]; exact ha)⟩)
  refine ⟨N',x',y',R',b',nd',(s1.trans s2).mono (by rw [List.length_cons]; omega),by rw [hl,List.length_append,List.length_singleton,List.length_cons]; omega,hN',?_⟩
  rw [BX]
  have em:(N.map sD) ++ [Dt.str (S q)]=(N ++ [q]).map sD:=by rw [List.map_append]; rfl
  have hlen:(N.map sD).length < 16777216:=by rw [List.length_map]; omega
  cases hi:bY (.str (S z)) (N.map sD) with
  | true=>
   rw [hi,if_pos rfl] at hq
   subst hq
   simp! [t1,LS,hi,t2,hlen,em,e]
  | false=>
   rw [hi,if_neg (by decide)] at hq
   subst hq
   simp! [t1,LS,hi,hlen,em,e]
theorem W2{R:List Cell}{j:Nat}{b:Bx}(hb:R[j]? = some (JF b))(hn:b.n≤800000000){k:Nat}(hk:k≤20):
  ∃ (N:List Kn) (R':List Cell) (b':Bx),F3 K cs [.ad j,.int k] R=.ok (.lst (N.map sD)) R'∧N.Nodup∧N.length=k∧(∀ z∈N,Nm z)∧At R R' j b b' 400:=by
 have ed:F3 K cs [.ad j,.int k] R=runM 5 (Hr K cs) [.ad j,.int k] R:=GA rfl
 rw [ed]
 unfold Hr
 obtain ⟨N,x,y,R',b',nd,s1,hl,hN,e⟩:=PQ (K:=K) (cs:=cs) (d1:=some (.sh (.int k))) (JL 0 k) [] none none R b hb (by rw [Hl]; omega) (by rw [Hl]; simp only [List.length_nil]; omega) (fun z hz=>nomatch hz) List.nodup_nil
 rw [Hl] at s1 hl
 have hs:Fi (k:Int)=true:=decide_eq_true (by omega)
 have ek:((k:Int)).toNat=k:=by omega
 refine ⟨N,R',b',?_,nd,by rw [hl]; simp,hN,s1.mono (by omega)⟩
 have hf:AW (Ai 3) (Dr (Ab (Aa 1) Ag)) [] (Ao (BO 4 (Az 5 (Fm K cs) (xP (Ab (Aa 0) Ag)) [0]) [])
  (Ao (BR (FD.t2 (Aa 4) (Aa 2) LL) (B2 4 (Aj (ED K cs) (Ab (Aa 2) Ag)) [2]) Ar)
  (Du 2 (Aa 4) [4]))) [some (.sh (.ad j)),some (.sh (.int k)),some (.ol []),none,none,some (.mh R)]=.ok .nx [some (.sh (.ad j)),some (.sh (.int k)),some (.ol (N.map sD)),x,y,some (.mh R')]:=by
  rw [BY]
  simp! [Jz,hs,ek]
  exact e
 simp! [hf,FD.EO]
def kN(k:Kn):Key:=.inr (S k)
theorem HJ{a b:Kn}(h:kN a=kN b):a=b:=Nf.S_inj (Sum.inr.inj h)
def Cc(r:Row):List Key:=r.map fun p=>kN p.1
def D7(r:Row):List Dt:=r.map fun p=>.int p.2
def rD(r:Row):Dt:=.dic (Cc r) (D7 r)
def Jb(p:Kn × Int):Dt:=.tup [.str (S p.1),.int p.2]
def fD(r:Row):Dt:=.ptp (r.map Jb)
def tT(r:Row):Dt:=.tup [.int r.length,.int (sm r),fD r]
def Yd(r:Row):Prop:=∀ p∈r,Nm p.1
theorem Ii{r:Row}{k:Kn}:kN k∈Cc r ↔ k∈ks r:=by
 unfold Cc ks
 constructor
 ·intro h
  obtain ⟨p,hp,e⟩:=List.mem_map.mp h
  exact List.mem_map.mpr ⟨p,hp,HJ e⟩
 ·intro h
  obtain ⟨p,hp,rfl⟩:=List.mem_map.mp h
  exact List.mem_map.mpr ⟨p,hp,rfl⟩
theorem atD(r:Row)(k:Kn):SN (Cc r) (D7 r) (kN k)=(gt r k).map .int:=by
 induction r with
 | nil=>rfl
 | cons p r ih=>
  show SN (kN p.1 :: Cc r) (.int p.2 :: D7 r) (kN k)=_
  unfold SN gt
  by_cases e:k=p.1
  ·rw [if_pos e,if_pos (by rw [e])]; rfl
  ·rw [if_neg e,if_neg (fun h=>e (HJ h).symm),ih]
theorem T4(r:Row)(k:Kn):Au (rD r) (.str (S k))=(gt r k).map .int:=atD r k
theorem kU(r:Row)(k:Kn):DN (.str (S k)) (rD r)=some (decide (k∈ks r)):=by
 show some (decide (kN k∈Cc r))=_
 rw [decide_eq_decide.mpr Ii]
theorem Jj(r:Row):(Cc r).map IW=(ks r).map sD:=by
 unfold Cc ks
 rw [List.map_map,List.map_map]
 rfl
theorem items(r:Row):V9 (rD r)=some (r.map Jb):=by
 show some (c9 (Cc r) (D7 r))=_
 unfold c9 Cc D7
 rw [List.zip_map',List.map_map]
 rfl
def Dl(r:Row)(k:Kn)(x:Int):Row:=if k∈ks r then r.map fun p=>if p.1=k then (p.1,x) else p else r ++ [(k,x)]
theorem NT(r:Row)(k:Kn)(x:Int):E2 (Cc r) (kN k)=Cc (Dl r k x):=by
 unfold E2 Dl
 by_cases h:k∈ks r
 ·rw [if_pos (Ii.mpr h),if_pos h]
  unfold Cc
  rw [List.map_map]
  refine List.map_congr_left fun p _=>?_
  simp only [Function.comp]
  split <;> rfl
 ·rw [if_neg fun z=>h (Ii.mp z),if_neg h]
  unfold Cc
  rw [List.map_append]
  rfl
theorem X3:∀ (r:Row) (k:Kn) (x:Int),Qy (Cc r) (D7 r) (kN k) (.int x)=D7 (r.map fun p=>if p.1=k then (p.1,x) else p)
 | [],k,x=>rfl
 | p :: r,k,x=>by
  show Qy (kN p.1 :: Cc r) (.int p.2 :: D7 r) (kN k) (.int x)=_
  unfold Qy
  rw [X3 r k x]
  by_cases e:p.1=k
  ·rw [if_pos (by rw [e])]
   simp only [List.map_cons,if_pos e]
   rfl
  ·rw [if_neg fun h=>e (HJ h)]
   simp only [List.map_cons,if_neg e]
   rfl
theorem NY(r:Row)(k:Kn)(x:Int):Df (Cc r) (D7 r) (kN k) (.int x)=D7 (Dl r k x):=by
 unfold Df Dl
 by_cases h:k∈ks r
 ·rw [if_pos (Ii.mpr h),if_pos h,X3]
 ·rw [if_neg fun z=>h (Ii.mp z),if_neg h]
  unfold D7
  rw [List.map_append]
  rfl
theorem NN(r:Row)(k:Kn)(x:Int):ks (Dl r k x)=if k∈ks r then ks r else ks r ++ [k]:=by
 unfold Dl
 by_cases h:k∈ks r
 ·rw [if_pos h,if_pos h]
  unfold ks
  rw [List.map_map]
  refine List.map_congr_left fun p _=>?_
  simp only [Function.comp]
  split <;> rfl
 ·rw [if_neg h,if_neg h]
  unfold ks
  rw [List.map_append]
  rfl
theorem Ng(p:Kn × Int)(r:Row)(j:Kn):gt (p :: r) j=if j=p.1 then some p.2 else gt r j:=rfl
theorem Sq{k:Kn}{x:Int}{j:Kn}(h:j≠k):∀ r:Row,gt (r.map fun p=>if p.1=k then (p.1,x) else p) j=gt r j
 | []=>rfl
 | p :: r=>by
  rw [List.map_cons,Ng,Ng,Sq h r]
  by_cases e:p.1=k
  ·rw [if_pos e]
   have:¬ j=p.1:=fun z=>h (z.trans e)
   simp only [if_neg this]
  ·rw [if_neg e]
theorem RP{k:Kn}{x:Int}:∀ {r:Row},k∈ks r→gt (r.map fun p=>if p.1=k then (p.1,x) else p) k=some x
 | [],h=>nomatch h
 | p :: r,h=>by
  rw [List.map_cons,Ng]
  by_cases e:p.1=k
  ·rw [if_pos e]
   simp only [if_pos e.symm]
  ·rw [if_neg e,if_neg fun z=>e z.symm]
   refine RP ?_
   rcases List.mem_cons.mp h with z | z
   ·exact absurd z.symm e
   ·exact z
theorem aY{k:Kn}{x:Int}{j:Kn}:∀ {r:Row},k∉ks r→gt (r ++ [(k,x)]) j=if j=k then some x else gt r j
 | [],_=>rfl
 | p :: r,h=>by
  have h1:¬ k=p.1:=fun z=>h (by rw [z]; exact List.mem_cons_self)
  rw [List.cons_append,Ng,Ng,aY fun z=>h (List.mem_cons_of_mem _ z)]
  by_cases e2:j=p.1
  ·rw [if_pos e2,if_neg (fun z=>h1 (z.symm.trans e2)),if_pos e2]
  ·rw [if_neg e2,if_neg e2]
theorem IG(r:Row)(k:Kn)(x:Int)(j:Kn):gt (Dl r k x) j=if j=k then some x else gt r j:=by
 unfold Dl
 by_cases h:k∈ks r
 ·rw [if_pos h]
  by_cases e:j=k
  ·rw [if_pos e,e,RP h]
  ·rw [if_neg e,Sq e]
 ·rw [if_neg h,aY h]
theorem PN{r:Row}(h:(ks r).Nodup)(k:Kn)(x:Int):(ks (Dl r k x)).Nodup:=by
 rw [NN]
 split
 ·exact h
 ·rename_i hn
  exact List.nodup_append.mpr ⟨h,List.nodup_cons.mpr ⟨(fun z=>nomatch z),List.nodup_nil⟩,fun a ha b hb e=>hn (by rw [← List.mem_singleton.mp hb,← e]; exact ha)⟩
theorem iI(r:Row)(k:Kn)(x:Int):Dl r k x≠[]:=by
 intro h
 have:k∈ks (Dl r k x):=by
  rw [NN]
  split
  ·assumption
  ·exact List.mem_append_right _ (List.mem_singleton.mpr rfl)
 rw [h] at this
 cases this
theorem Ti{r:Row}{k:Kn}{x:Int}{j:Kn}(h:j∈ks (Dl r k x)):j∈ks r∨j=k:=by
 rw [NN] at h
 split at h
 ·exact .inl h
 ·rcases List.mem_append.mp h with z | z
  ·exact .inl z
  ·exact .inr (List.mem_singleton.mp z)
theorem ZP{r:Row}{k:Kn}{x:Int}{j:Kn}(h:j∈ks r∨j=k):j∈ks (Dl r k x):=by
 rw [NN]
 by_cases hk:k∈ks r
 ·rw [if_pos hk]
  rcases h with h | rfl
  ·exact h
  ·exact hk
 ·rw [if_neg hk]
  rcases h with h | rfl
  ·exact List.mem_append_left _ h
  ·exact List.mem_append_right _ (List.mem_singleton.mpr rfl)
structure Gr (N:List Kn) (r:Row):Prop where
 nd:(ks r).Nodup
 sub:∀ k∈ks r,k∈N
theorem Gr.len{N:List Kn}{r:Row}(h:Gr N r):r.length≤N.length:=by
 have:=KR h.nd h.sub
 unfold ks at this
 rw [List.length_map] at this
 exact this
theorem Gr.nil(N:List Kn):Gr N []:=⟨List.nodup_nil,fun k h=>nomatch h⟩
theorem Gr.put{N:List Kn}{r:Row}(h:Gr N r){k:Kn}(hk:k∈N)(x:Int):Gr N (Dl r k x):=⟨PN h.nd k x,fun j hj=>by
 rcases Ti hj with z | rfl
 ·exact h.sub j z
 ·exact hk⟩
theorem Iy(r:Row):(Cc r).length=r.length:=List.length_map ..
theorem km{i:Nat}{fk:FD.Env→Out Dt}{f:FD.Env→XO Dt}{lk:List Nat}{ρ ρ1:FD.Env}{r:Row}{k:Kn}{x:Int}(hf:f ρ=.ok (.int x) ρ1)(hi:ρ1[i]? = some (some (.od (Cc r) (D7 r))))(hk:fk ρ1=.ok (.str (S k)))(hl:r.length < 16777216):
  EL i fk f lk ρ=.ok .nx (ρ1.set i (some (.od (Cc (Dl r k x)) (D7 (Dl r k x))))):=by
 have e:AQ (.int x) lk ρ1=ρ1:=Ee ..
 unfold EL
 rw [hf]
 show (match (AQ (.int x) lk ρ1)[i]? with
 | some (some (.od ks ds))=>IL (fk (AQ (.int x) lk ρ1)) (AQ (.int x) lk ρ1) fun k=>(match keyD k with
  | some k=>if ks.length < 16777216 then .ok .nx ((AQ (.int x) lk ρ1).set i (some (.od (E2 ks k) (Df ks ds k (.int x))))) else .bad
  | none=>.bad)
 | _=>.bad)=_
 rw [e,hi]
 show (IL (fk ρ1) ρ1 fun k=>(match keyD k with
  | some k=>if (Cc r).length < 16777216 then .ok .nx (ρ1.set i (some (.od (E2 (Cc r) k) (Df (Cc r) (D7 r) k (.int x))))) else .bad
  | none=>.bad))=_
 rw [hk,Fb]
 show (if (Cc r).length < 16777216 then SOut.ok .nx (ρ1.set i (some (.od (E2 (Cc r) (kN k)) (Df (Cc r) (D7 r) (kN k) (.int x))))) else .bad)=_
 rw [Iy,if_pos hl,NT r k x,NY]
theorem kR{i:Nat}{fk:FD.Env→Out Dt}{f:FD.Env→Out Dt}{lk:List Nat}{ρ:FD.Env}{r:Row}{k:Kn}{x:Int}(hf:f ρ=.ok (.int x))(hi:ρ[i]? = some (some (.od (Cc r) (D7 r))))(hk:fk ρ=.ok (.str (S k)))(hl:r.length < 16777216):
  A8 i fk f lk ρ=.ok .nx (ρ.set i (some (.od (Cc (Dl r k x)) (D7 (Dl r k x))))):=by
 have e:AQ (.int x) lk ρ=ρ:=Ee ..
 unfold A8
 rw [hf,Fb,e,hi]
 show (IL (fk ρ) ρ fun k=>(match keyD k with
  | some k=>if (Cc r).length < 16777216 then .ok .nx (ρ.set i (some (.od (E2 (Cc r) k) (Df (Cc r) (D7 r) k (.int x))))) else .bad
  | none=>.bad))=_
 rw [hk,Fb]
 show (if (Cc r).length < 16777216 then SOut.ok .nx (ρ.set i (some (.od (E2 (Cc r) (kN k)) (Df (Cc r) (D7 r) (kN k) (.int x))))) else .bad)=_
 rw [Iy,if_pos hl,NT r k x,NY]
theorem O1{i:Nat}{u:Dt→FD.Env→Option FD.Env}{b:FD.Env→SOut}{ρ ρ':FD.Env}{r:Row}(hi:ρ[i]? = some (some (.sh (rD r))))(hl:frz [i] ρ=ρ)(h:Bm u b ((ks r).map sD) ρ=.ok .nx ρ'):DU i u b ρ=.ok .nx ρ':=by
 have e:CO i ρ=.ok ((ks r).map sD):=by
  unfold CO
  rw [hi]
  show Out.ok ((Cc r).map IW)=_
  rw [Jj]
 unfold DU
 rw [BY,e,Fb,hl,h]
theorem fF{i:Nat}{u:Dt→FD.Env→Option FD.Env}{b:FD.Env→SOut}{ρ ρ':FD.Env}{d:Dt}{r:Row}(hi:ρ[i]? = some (some (.sh (rD r))))(hl:frz [i] ρ=ρ)(h:Bm u b ((ks r).map sD) ρ=.ok (.rt d) ρ'):DU i u b ρ=.ok (.rt d) ρ':=by
 have e:CO i ρ=.ok ((ks r).map sD):=by
  unfold CO
  rw [hi]
  show Out.ok ((Cc r).map IW)=_
  rw [Jj]
 unfold DU
 rw [BY,e,Fb,hl,h]
theorem Xo(r:Row):Dt.E7 (D7 r)=true:=by
 unfold D7
 induction r with
 | nil=>rfl
 | cons p r ih=>rw [List.map_cons,Dt.E7,ih]; rfl
structure Gd (N:List Kn) (R:List Row):Prop where
 g:∀ r∈R,Gr N r
 n:∀ r∈R,r≠[]
theorem Gd.app{N:List Kn}{R:List Row}{r:Row}(h:Gd N R)(g:Gr N r)(n:r≠[]):Gd N (R ++ [r]):=⟨fun x hx=>by
 rcases List.mem_append.mp hx with z | z
 ·exact h.g x z
 ·rw [List.mem_singleton.mp z]; exact g,fun x hx=>by
 rcases List.mem_append.mp hx with z | z
 ·exact h.n x z
 ·rw [List.mem_singleton.mp z]; exact n⟩
theorem kH(r:Row):(rD r).na=true:=by
 have h:Dt.IA (D7 r)=true:=by
  unfold D7
  induction r with
  | nil=>rfl
  | cons p r ih=>rw [List.map_cons,Dt.IA,ih]; rfl
 unfold rD
 rw [Dt.na]
 exact h
theorem GN{α:Type}{f:α→Dt}(h:∀ a,(f a).na=true):∀ l:List α,Dt.IA (l.map f)=true
 | []=>rfl
 | a :: l=>by rw [List.map_cons,Dt.IA,h a,GN h l]; rfl
theorem TJ(n:Nat):JL 0 n=(List.range n).map fun k:Nat=>.int (k:Int):=by
 unfold JL
 exact List.map_congr_left fun k _=>by rw [Int.zero_add]
theorem Lc(r:Row)(k:Kn)(x:Int):(Dl r k x).length≤r.length + 1:=by
 unfold Dl
 split
 ·rw [List.length_map]; omega
 ·rw [List.length_append,List.length_singleton]; exact Nat.le_refl _
theorem EC{α:Type}{f:α→Dt}{g:α→PyData}:∀ l:List α,(∀ a∈l,(f a).py=some (g a))→Dt.Pb (l.map f)=some (l.map g)
 | [],_=>rfl
 | a :: l,h=>by
  rw [List.map_cons,Dt.Pb,h a List.mem_cons_self,EC l fun x hx=>h x (List.mem_cons_of_mem _ hx)]
  rfl
theorem WT(p:Kn × Int):(Jb p).py=some (pP p):=rfl
theorem QF(r:Row):(fD r).py=some (rP r):=by
 unfold fD
 rw [Dt.py,EC r fun p _=>WT p]
 rfl
theorem k9(r:Row):(tT r).py=some (tP r):=by
 unfold tT
 rw [Dt.py,Dt.Pb,Dt.Pb,Dt.Pb,QF]
 rfl
theorem WD(p:Kn × Int):(pP p).depth=1:=by
 unfold pP sP
 simp [PyData.depth,PyData.depthAll]
theorem K1{α:Type}{g:α→PyData}{n:Nat}(h:∀ a,(g a).depth≤n):∀ l:List α,PyData.depthAll (l.map g)≤n
 | []=>by simp [PyData.depthAll]
 | a :: l=>by
  rw [List.map_cons,PyData.depthAll]
  exact Nat.max_le.mpr ⟨h a,K1 h l⟩
theorem Qo(r:Row):(rP r).depth≤2:=by
 have:=K1 (g:=pP) (n:=1) (fun p=>by rw [WD]; exact Nat.le_refl _) r
 unfold rP
 rw [PyData.depth]
 omega
theorem iG(r:Row):(tP r).depth≤3:=by
 have:=Qo r
 unfold tP
 simp only [PyData.depth,PyData.depthAll]
 omega
theorem Pu{α:Type}{f:α→Dt}{g:α→PyData}{l:List α}(hp:∀ a∈l,(f a).py=some (g a))(ha:∀ a∈l,∀ b∈l,PySem.W.alike (g a) (g b)=true)(ht:∀ a∈l,cM (g a)=true)(hd:∀ a∈l,(g a).depth≤60){le:α→α→Bool}(hle:∀ a b,le a b=jJ (g a) (g b)):
  Cw [.lst (l.map f)]=some ((l.mergeSort le).map f):=by
 have h1:LQ (l.map g)=true:=by
  unfold LQ
  refine List.all_eq_true.mpr fun x hx=>List.all_eq_true.mpr fun y hy=>?_
  obtain ⟨a,ha',rfl⟩:=List.mem_map.mp hx
  obtain ⟨b,hb',rfl⟩:=List.mem_map.mp hy
  exact ha a ha' b hb'
 have h2:Ma (l.map g)=true:=by
  unfold Ma
  rw [Bool.and_eq_true,Bool.or_eq_true]
  refine ⟨.inl (List.all_eq_true.mpr fun x hx=>?_),List.all_eq_true.mpr fun x hx=>?_⟩
  ·obtain ⟨a,ha',rfl⟩:=List.mem_map.mp hx
   exact ht a ha'
  ·obtain ⟨a,ha',rfl⟩:=List.mem_map.mp hx
   exact decide_eq_true (hd a ha')
 unfold Cw
 show ((some (l.map f):Option (List Dt)).bind fun ds=>(Dt.Pb ds).bind fun ps=>if LQ ps=true∧Ma ps=true then some (((ds.zip ps).mergeSort TU).map (·.1)) else none)=_
 simp only [Option.bind_some]
 rw [EC l hp]
 simp only [Option.bind_some]
 rw [if_pos ⟨h1,h2⟩]
 have hz:(l.map f).zip (l.map g)=l.map fun t=>(f t,g t):=List.zip_map'
 rw [hz]
 have hm:(l.map fun t=>(f t,g t)).mergeSort TU=(l.mergeSort le).map fun t=>(f t,g t):=(List.map_mergeSort (l:=l) (f:=fun t=>(f t,g t)) (r:=le) (s:=TU) (fun a _ b _=>hle a b)).symm
 rw [hm,List.map_map]
 rfl
theorem jh(p:Kn × Int):cM (pP p)=true:=rfl
theorem iZ{r:Row}(h:r≠[]):cM (rP r)=true:=by
 cases r with
 | nil=>exact absurd rfl h
 | cons p r=>rfl
theorem X6(r:Row):Cw [.lst (r.map Jb)]=some ((flat r).map Jb):=
 Pu (g:=pP) (le:=pO.le) (fun p _=>WT p) (fun a _ b _=>QQ a b) (fun p _=>jh p) (fun p _=>by rw [WD]; decide) fun _ _=>rfl
theorem eK{L:List Row}(h:∀ r∈L,r≠[]):Cw [.lst (L.map fD)]=some ((rO.sort L).map fD):=
 Pu (g:=rP) (le:=rO.le) (fun r _=>QF r) (fun a _ b _=>M5 a b) (fun r hr=>iZ (h r hr)) (fun r _=>by have:=Qo r; omega) fun _ _=>rfl
theorem fK(L:List Row):Cw [.lst (L.map tT)]=some ((tO.sort L).map tT):=
 Pu (g:=tP) (le:=tO.le) (fun r _=>k9 r) (fun a _ b _=>Vj a b) (fun r _=>rfl) (fun r _=>by have:=iG r; omega) fun _ _=>rfl
theorem Vo(r:Row):HU K cs [rD r]=.ok (fD (flat r)):=by
 have ed:HU K cs [rD r]=AB 1 (ME K cs) [rD r]:=AJ rfl
 rw [ed]
 unfold ME
 have hs:OX (rD r)=some ((flat r).map Jb):=by
  show Cw [.lst (c9 (Cc r) (D7 r))]=_
  have:=items r
  have e:c9 (Cc r) (D7 r)=r.map Jb:=Option.some.inj this
  rw [e,X6]
 simp! [Wi,hs,LH]
 rfl
theorem jb(r:Row):G1 K cs [rD r]=.ok (fD (flat r)):=by
 have ed:G1 K cs [rD r]=AB 1 (Iz K cs) [rD r]:=AJ rfl
 rw [ed]
 unfold Iz
 simp! [NS,items,X6,LH]
 rfl
theorem Oe{b:Row}{d0:Option Lo}:∀ (a:Row) (x y:Option Lo),∃ x' y',Bm (FC (AY (Ai 2) (AY (Ai 3) Fc))) (BR (Cb (FD.t2 (Aa 2) (Aa 1) (Dq DN)) (FD.t2 (Aa 3) (FD.e2 (Aa 1) (Aa 2) Au) (cI fun i j=>decide (j < i)))) (AE (eC (.bl false)) []) Ar) (a.map Jb) [d0,some (.sh (rD b)),x,y]=if Bj a b=true then .ok .nx [d0,some (.sh (rD b)),x',y'] else .ok (.rt (.bl false)) [d0,some (.sh (rD b)),x',y']
 | [],x,y=>⟨x,y,rfl⟩
 | p :: a,x,y=>by
  obtain ⟨x',y',e⟩:=Oe (b:=b) (d0:=d0) a (some (.sh (.str (S p.1)))) (some (.sh (.int p.2)))
  have hb:Bj (p :: a) b=((match gt b p.1 with | some y=>decide (p.2≤y) | none=>false) && Bj a b):=rfl
  have ga:=T4 b p.1
  have gi:=kU b p.1
  have hu:FC (AY (Ai 2) (AY (Ai 3) Fc)) (Jb p) [d0,some (.sh (rD b)),x,y]=some [d0,some (.sh (rD b)),some (.sh (.str (S p.1))),some (.sh (.int p.2))]:=by
   unfold Jb
   simp! []
  rw [hb,List.map_cons,G6 hu]
  cases hg:gt b p.1 with
  | none=>
   have hk:p.1∉ks b:=Iw.mp hg
   rw [decide_eq_false hk] at gi
   refine ⟨some (.sh (.str (S p.1))),some (.sh (.int p.2)),?_⟩
   simp! [gi]
  | some z=>
   have hk:p.1∈ks b:=Eu (Hb hg)
   rw [decide_eq_true hk] at gi
   rw [hg] at ga
   by_cases hz:z < p.2
   ·refine ⟨some (.sh (.str (S p.1))),some (.sh (.int p.2)),?_⟩
    have hz':¬ p.2≤z:=by omega
    simp! [gi,ga,hz,hz',decide_true,decide_false]
   ·refine ⟨x',y',?_⟩
    have hz':p.2≤z:=by omega
    simp! [gi,ga,hz,hz',decide_true,decide_false,e]
theorem bP(a b:Row):FU K cs [fD a,rD b]=.ok (.bl (Bj a b)):=by
 have ed:FU K cs [fD a,rD b]=AB 4 (MR K cs) [fD a,rD b]:=AJ rfl
 rw [ed]
 unfold MR
 obtain ⟨x',y',e⟩:=Oe (b:=b) (d0:=some (.sh (fD a))) a none none
 have hf:AW (FC (AY (Ai 2) (AY (Ai 3) Fc))) (AD (Aa 0)) [0] (BR (Cb (FD.t2 (Aa 2) (Aa 1) (Dq DN)) (FD.t2 (Aa 3) (FD.e2 (Aa 1) (Aa 2) Au) (cI fun i j=>decide (j < i)))) (AE (eC (.bl false)) []) Ar) [some (.sh (fD a)),some (.sh (rD b)),none,none]=Bm (FC (AY (Ai 2) (AY (Ai 3) Fc))) (BR (Cb (FD.t2 (Aa 2) (Aa 1) (Dq DN)) (FD.t2 (Aa 3) (FD.e2 (Aa 1) (Aa 2) Au) (cI fun i j=>decide (j < i)))) (AE (eC (.bl false)) []) Ar) (a.map Jb) [some (.sh (fD a)),some (.sh (rD b)),none,none]:=rfl
 rw [e] at hf
 cases hb:Bj a b with
 | true=>
  rw [hb,if_pos rfl] at hf
  simp! [hf]
 | false=>
  rw [hb,if_neg (by decide)] at hf
  simp! [hf]
theorem Xk:∀ r:Row,YL (r.map Jb)=some (r.map fun p=>(kN p.1,Dt.int p.2))
 | []=>rfl
 | p :: r=>by
  rw [List.map_cons,YL,Xk r]
  rfl
theorem kW{r:Row}(h:(ks r).Nodup):(Cc r).Nodup:=by
 have e:Cc r=(ks r).map kN:=by unfold Cc ks; rw [List.map_map]; rfl
 rw [e]
 exact List.Pairwise.map _ (fun a b hab z=>hab (HJ z)) h
theorem KU{r:Row}(h:(ks r).Nodup):Fg [fD r]=some (rD r):=by
 unfold fD Fg
 simp only
 rw [Xk,Option.bind_some]
 have e1:(r.map fun p=>(kN p.1,Dt.int p.2)).map (·.1)=Cc r:=by rw [List.map_map]; rfl
 have e2:(r.map fun p=>(kN p.1,Dt.int p.2)).map (·.2)=D7 r:=by rw [List.map_map]; rfl
 rw [e1,e2,if_pos (kW h)]
 rfl
theorem Qz{r:Row}{d0 d1:Option Lo}:∀ (L:List Row) (x:Option Lo),∃ x',Bm (Ai 3) (BR (FD.t1 (Aj (FU K cs) (Ab (Aa 3) (Ab (Aa 2) Ag))) AR) (AE (eC (.bl true)) []) Ar) (L.map fD) [d0,d1,some (.sh (rD r)),x]=if (L.any fun o=>Bj o r)=true then .ok (.rt (.bl true)) [d0,d1,some (.sh (rD r)),x'] else .ok .nx [d0,d1,some (.sh (rD r)),x']
 | [],x=>⟨x,rfl⟩
 | o :: L,x=>by
  obtain ⟨x',e⟩:=Qz (r:=r) (d0:=d0) (d1:=d1) L (some (.sh (fD o)))
  have t:=bP (K:=K) (cs:=cs) o r
  rw [List.map_cons,BX,List.any_cons]
  cases hb:Bj o r with
  | true=>
   rw [hb] at t
   refine ⟨some (.sh (fD o)),?_⟩
   simp! [t]
  | false=>
   rw [hb] at t
   refine ⟨x',?_⟩
   simp! [t,e]
theorem U5(L:List Row){r:Row}(h:(ks r).Nodup):Bp K cs [.lst (L.map fD),fD r]=.ok (.bl (L.any fun o=>Bj o r)):=by
 have ed:Bp K cs [.lst (L.map fD),fD r]=AB 4 (Fw K cs) [.lst (L.map fD),fD r]:=AJ rfl
 rw [ed]
 unfold Fw
 obtain ⟨x',e⟩:=Qz (K:=K) (cs:=cs) (r:=r) (d0:=some (.sh (.lst (L.map fD)))) (d1:=some (.sh (fD r))) L none
 have hf:AW (Ai 3) (AD (Aa 0)) [0] (BR (FD.t1 (Aj (FU K cs) (Ab (Aa 3) (Ab (Aa 2) Ag))) AR) (AE (eC (.bl true)) []) Ar) [some (.sh (.lst (L.map fD))),some (.sh (fD r)),some (.sh (rD r)),none]=Bm (Ai 3) (BR (FD.t1 (Aj (FU K cs) (Ab (Aa 3) (Ab (Aa 2) Ag))) AR) (AE (eC (.bl true)) []) Ar) (L.map fD) [some (.sh (.lst (L.map fD))),some (.sh (fD r)),some (.sh (rD r)),none]:=rfl
 rw [e] at hf
 have hd:AQ (rD r) [1] [some (.sh (.lst (L.map fD))),some (.sh (fD r)),none,none]=[some (.sh (.lst (L.map fD))),some (.sh (fD r)),none,none]:=Ek (by rfl)
 cases hb:L.any fun o=>Bj o r with
 | true=>
  rw [hb,if_pos rfl] at hf
  simp! [KU h,hd,hf]
 | false=>
  rw [hb,if_neg (by decide)] at hf
  simp! [KU h,hd,hf]
theorem Mj{α:Type}{u:Dt→FD.Env→Option FD.Env}{f:FD.Env→Out Dt}{ρ:FD.Env}{e g:α→Dt}:∀ {xs:List α},(∀ x∈xs,∃ ρ1,u (e x) ρ=some ρ1∧f ρ1=.ok (g x))→OF u AI f ρ (xs.map e)=.ok (xs.map g)
 | [],_=>rfl
 | x :: xs,h=>by
  obtain ⟨ρ1,h1,h2⟩:=h x List.mem_cons_self
  rw [List.map_cons,QA,h1]
  simp only [B3,Out.AA,O0,Cf,if_true,h2]
  rw [Mj fun y hy=>h y (List.mem_cons_of_mem _ hy)]
  rfl
theorem CM{α:Type}{u:Dt→FD.Env→Option FD.Env}{vs lk:List Nat}{f:FD.Env→Out Dt}{src:FD.Env→Out (List Dt)}{ρ:FD.Env}{e g:α→Dt}{xs:List α}(hs:src ρ=.ok (xs.map e))(hl:xs.length≤16777216)(h:∀ x∈xs,∃ ρ1,u (e x) (BJ (frz lk ρ) vs)=some ρ1∧f ρ1=.ok (g x)):
  EA u vs AI f src lk ρ=.ok (xs.map g):=by
 rw [aC,hs,Out.AA,if_pos (by rw [List.length_map]; exact hl),Mj h]
structure Sz (R:List Row):Prop where
 l:R.length≤1000
 r:∀ r∈R,r.length≤1000
 n:∀ r∈R,(ks r).Nodup
theorem dD(r:Row):RD [.lst (D7 r)]=some (.int (sm r)):=by
 have:D7 r=(r.map (·.2)).map Dt.int:=by unfold D7; rw [List.map_map]; rfl
 rw [this]
 show (JG _).map _=_
 rw [I8]
 rfl
theorem h9{R:List Row}(h:Sz R){x5 x6 x7:Option Lo}:(EA (Ai 2) [2] AI (GZ (Ab (eB CI (Ab (Aa 2) Ag)) (Ab (eB RD (Ab (eL (EA (FC (AY (Ai 3) (AY (Ai 4) Fc))) [3,4] AI (Aa 4) (AD (Aa 2)) [2])) Ag)) (Ab (Aa 2) Ag)))) (AD (Aa 0)) [0]) [some (.sh (.lst (R.map fD))),none,none,none,none,x5,x6,x7]=.ok (R.map tT):=by
 refine CM (e:=fD) rfl (by have:=h.l; omega) fun r hr=>⟨[some (.sh (.lst (R.map fD))),none,some (.sh (fD r)),none,none,x5,x6,x7],rfl,?_⟩
 have hi:EA (FC (AY (Ai 3) (AY (Ai 4) Fc))) [3,4] AI (Aa 4) (AD (Aa 2)) [2] [some (.sh (.lst (R.map fD))),none,some (.sh (fD r)),none,none,x5,x6,x7]=.ok (D7 r):=
  CM (e:=Jb) (g:=fun p=>.int p.2) rfl (by have:=h.r r hr; omega) fun p hp=>⟨[some (.sh (.lst (R.map fD))),none,some (.sh (fD r)),some (.sh (.str (S p.1))),some (.sh (.int p.2)),x5,x6,x7],rfl,rfl⟩
 have gl:CI [fD r]=some (.int r.length):=by
  unfold fD
  rw [Vb,List.length_map]
 simp! [hi,gl,dD]
 rfl
theorem PR{d0 d1 x3 x4:Option Lo}:∀ (T Kp:List Row) (x2 x6 x7:Option Lo),(∀ r∈T,(ks r).Nodup)→Kp.length + T.length≤1000→∃ x2' x6' x7',Bm (FC (AY (Ai 6) (AY (Ai 7) (AY (Ai 2) Fc)))) (BR (AM (FD.t1 (Aj (Bp K cs) (Ab (Aa 5) (Ab (Aa 2) Ag))) AR)) (Du 5 (Aa 2) [2]) Ar) (T.map tT) [d0,d1,x2,x3,x4,some (.ol (Kp.map fD)),x6,x7]=.ok .nx [d0,d1,x2',x3,x4,some (.ol ((keep Kp T).map fD)),x6',x7']
 | [],Kp,x2,x6,x7,_,_=>⟨x2,x6,x7,rfl⟩
 | r :: T,Kp,x2,x6,x7,hn,hl=>by
  simp only [List.length_cons] at hl
  have t:=U5 (K:=K) (cs:=cs) Kp (hn r List.mem_cons_self)
  have hn':∀ r∈T,(ks r).Nodup:=fun x hx=>hn x (List.mem_cons_of_mem _ hx)
  have hu:FC (AY (Ai 6) (AY (Ai 7) (AY (Ai 2) Fc))) (tT r) [d0,d1,x2,x3,x4,some (.ol (Kp.map fD)),x6,x7]=some [d0,d1,some (.sh (fD r)),x3,x4,some (.ol (Kp.map fD)),some (.sh (.int r.length)),some (.sh (.int (sm r)))]:=rfl
  rw [List.map_cons,G6 hu]
  unfold keep
  cases hb:Kp.any fun o=>Bj o r with
  | true=>
   rw [hb] at t
   obtain ⟨x2',x6',x7',e⟩:=PR (d0:=d0) (d1:=d1) (x3:=x3) (x4:=x4) T Kp (some (.sh (fD r))) (some (.sh (.int r.length))) (some (.sh (.int (sm r)))) hn' (by omega)
   refine ⟨x2',x6',x7',?_⟩
   rw [if_pos rfl]
   simp! [t,e]
  | false=>
   rw [hb] at t
   obtain ⟨x2',x6',x7',e⟩:=PR (d0:=d0) (d1:=d1) (x3:=x3) (x4:=x4) T (Kp ++ [r]) (some (.sh (fD r))) (some (.sh (.int r.length))) (some (.sh (.int (sm r)))) hn' (by rw [List.length_append,List.length_singleton]; omega)
   refine ⟨x2',x6',x7',?_⟩
   rw [if_neg (by decide)]
   have em:Kp.map fD ++ [fD r]=(Kp ++ [r]).map fD:=by rw [List.map_append]; rfl
   have hlen:(Kp.map fD).length < 16777216:=by rw [List.length_map]; omega
   have hz:AQ (fD r) [2] [d0,d1,some (.sh (fD r)),x3,x4,some (.ol (Kp.map fD)),some (.sh (.int r.length)),some (.sh (.int (sm r)))]=[d0,d1,some (.sh (fD r)),x3,x4,some (.ol (Kp.map fD)),some (.sh (.int r.length)),some (.sh (.int (sm r)))]:=Ek rfl
   simp! [t,hz,hlen,em,e]
theorem QB{R:List Row}(h:Sz R)(h0:∀ r∈R,r≠[]):IT K cs [.lst (R.map fD)]=.ok (.tup ((lows R).map fD)):=by
 have ed:IT K cs [.lst (R.map fD)]=AB 8 (Mf K cs) [.lst (R.map fD)]:=AJ rfl
 rw [ed]
 unfold Mf
 have hp:=tO.CC R
 obtain ⟨x2,x6,x7,e⟩:=PR (K:=K) (cs:=cs) (d0:=some (.sh (.lst (R.map fD)))) (d1:=some (.sh (.lst ((tO.sort R).map tT)))) (x3:=none) (x4:=none) (tO.sort R) [] none none none (fun r hr=>h.n r (hp.mem_iff.mp hr)) (by rw [hp.length_eq]; have:=h.l; simpa using this)
 have hs:=h9 h (x5:=none) (x6:=none) (x7:=none)
 have hf:AW (FC (AY (Ai 6) (AY (Ai 7) (AY (Ai 2) Fc)))) (AD (Aa 1)) [1] (BR (AM (FD.t1 (Aj (Bp K cs) (Ab (Aa 5) (Ab (Aa 2) Ag))) AR)) (Du 5 (Aa 2) [2]) Ar) [some (.sh (.lst (R.map fD))),some (.sh (.lst ((tO.sort R).map tT))),none,none,none,some (.ol []),none,none]=.ok .nx [some (.sh (.lst (R.map fD))),some (.sh (.lst ((tO.sort R).map tT))),x2,none,none,some (.ol ((keep [] (tO.sort R)).map fD)),x6,x7]:=e
 have hk:∀ r∈keep [] (tO.sort R),r≠[]:=fun r hr=>by
  have:∀ (T Kp:List Row),∀ x∈keep Kp T,x∈Kp∨x∈T:=fun T=>by
   induction T with
   | nil=>exact fun Kp x hx=>.inl hx
   | cons r T ih=>
    intro Kp x hx
    unfold keep at hx
    split at hx
    ·exact (ih Kp x hx).imp id (List.mem_cons_of_mem _)
    ·rcases ih _ x hx with z | z
     ·rcases List.mem_append.mp z with z | z
      ·exact .inl z
      ·rw [List.mem_singleton.mp z]; exact .inr List.mem_cons_self
     ·exact .inr (List.mem_cons_of_mem _ z)
  rcases this (tO.sort R) [] r hr with z | z
  ·cases z
  ·exact h0 r (hp.mem_iff.mp z)
 simp! [hs,fK,FD.EO,hf,eK hk]
 rfl
theorem Sz.flat{R:List Row}(h:Sz R):Sz (R.map flat):=⟨by rw [List.length_map]; exact h.l,fun r hr=>by
 obtain ⟨x,hx,rfl⟩:=List.mem_map.mp hr
 rw [(DR x).length_eq]; exact h.r x hx,fun r hr=>by
 obtain ⟨x,hx,rfl⟩:=List.mem_map.mp hr
 exact (NM (h.n x hx)).nd⟩
theorem OW{r:Row}(h:r≠[]):flat r≠[]:=fun e=>h (List.eq_nil_of_length_eq_zero (by rw [← (DR r).length_eq,e]; rfl))
theorem az{R:List Row}(h:Sz R)(h0:∀ r∈R,r≠[]):KN K cs [.lst (R.map rD)]=.ok (.tup ((nf R).map fD)):=by
 have ed:KN K cs [.lst (R.map rD)]=AB 2 (L4 K cs) [.lst (R.map rD)]:=AJ rfl
 rw [ed]
 unfold L4
 have hc:EA (Ai 1) [1] AI (Aj (HU K cs) (Ab (Aa 1) Ag)) (AD (Aa 0)) [0] [some (.sh (.lst (R.map rD))),none]=.ok ((R.map flat).map fD):=by
  rw [List.map_map]
  refine CM (e:=rD) rfl (by have:=h.l; omega) fun r hr=>⟨[some (.sh (.lst (R.map rD))),some (.sh (rD r))],rfl,?_⟩
  simp! [Vo]
  rfl
 have t:=QB (K:=K) (cs:=cs) h.flat fun r hr=>by
  obtain ⟨x,hx,rfl⟩:=List.mem_map.mp hr
  exact OW (h0 x hx)
 simp! [hc,t]
 rfl
theorem Sf{d0:Option Lo}:∀ (R:List Row) (x:Option Lo),(∀ r∈R,r≠[])→∃ x',Bm (Ai 1) (BR (FD.t2 (eB Iv (Ab (Aa 1) Ag)) (eC (.int 0)) Lz) Kg Ar) (R.map rD) [d0,x]=.ok .nx [d0,x']
 | [],x,_=>⟨x,rfl⟩
 | r :: R,x,z=>by
  obtain ⟨x',e⟩:=Sf (d0:=d0) R (some (.sh (rD r))) fun y hy=>z y (List.mem_cons_of_mem _ hy)
  have gl:Iv [rD r]=some (.int r.length):=by
   show some (Dt.int ((Cc r).length:Nat))=_
   rw [Iy]
  have h:=z r List.mem_cons_self
  have hb:((r.length:Int) == (0:Int))=false:=beq_eq_false_iff_ne.mpr (by have:=List.length_pos_iff.mpr h; omega)
  rw [List.map_cons,BX]
  refine ⟨x',?_⟩
  simp! [gl,hb,e]
theorem g7{R:List Row}(h:R≠[])(z:∀ r∈R,r≠[]):GU K cs [.lst (R.map rD)]=.ok .non:=by
 have ed:GU K cs [.lst (R.map rD)]=AB 2 (HZ K cs) [.lst (R.map rD)]:=AJ rfl
 rw [ed]
 unfold HZ
 have gl:CI [.lst (R.map rD)]=some (.int (R.length:Nat)):=by rw [KL,List.length_map]
 obtain ⟨x',e⟩:=Sf (d0:=some (.sh (.lst (R.map rD)))) R none z
 have hf:AW (Ai 1) (AD (Aa 0)) [0] (BR (FD.t2 (eB Iv (Ab (Aa 1) Ag)) (eC (.int 0)) Lz) Kg Ar) [some (.sh (.lst (R.map rD))),none]=.ok .nx [some (.sh (.lst (R.map rD))),x']:=e
 have hb:((R.length:Int) == (0:Int))=false:=beq_eq_false_iff_ne.mpr (by have:=List.length_pos_iff.mpr h; omega)
 simp! [gl,hb,hf]
theorem RO{α:Type}{E:FD.Env→Prop}{u:Dt→FD.Env→Option FD.Env}{b:FD.Env→SOut}{e:α→Dt}:∀ xs:List α,(∀ x∈xs,∀ ρ,E ρ→∃ ρ1 ρ2,u (e x) ρ=some ρ1∧b ρ1=.ok .nx ρ2∧E ρ2)→∀ ρ,E ρ→∃ ρ',Bm u b (xs.map e) ρ=.ok .nx ρ'∧E ρ'
 | [],_,ρ,h=>⟨ρ,rfl,h⟩
 | x :: xs,hs,ρ,h=>by
  obtain ⟨ρ1,ρ2,h1,h2,h3⟩:=hs x List.mem_cons_self ρ h
  obtain ⟨ρ',h4,h5⟩:=RO xs (fun y hy=>hs y (List.mem_cons_of_mem _ hy)) ρ2 h3
  refine ⟨ρ',?_,h5⟩
  rw [List.map_cons,G6 h1,h2]
  exact h4
theorem Oh{a b:Row}(na:(ks a).Nodup):∀ (L:Row) (x:Option Lo),(∀ p∈L,p∈a)→∃ x',Bm (Ai 2) (BR (Cb (FD.t2 (Aa 2) (Aa 1) (Dq DN)) (FD.t2 (FD.e2 (Aa 0) (Aa 2) Au) (FD.e2 (Aa 1) (Aa 2) Au) (cI fun i j=>decide (j < i)))) (AE (eC (.bl false)) []) Ar) ((ks L).map sD) [some (.sh (rD a)),some (.sh (rD b)),x]=if Bj L b=true then .ok .nx [some (.sh (rD a)),some (.sh (rD b)),x'] else .ok (.rt (.bl false)) [some (.sh (rD a)),some (.sh (rD b)),x']
 | [],x,_=>⟨x,rfl⟩
 | p :: L,x,h=>by
  obtain ⟨x',e⟩:=Oh (b:=b) na L (some (.sh (sD p.1))) fun q hq=>h q (List.mem_cons_of_mem _ hq)
  have hb:Bj (p :: L) b=((match gt b p.1 with | some y=>decide (p.2≤y) | none=>false) && Bj L b):=rfl
  have ga:Au (rD a) (sD p.1)=some (.int p.2):=by
   have:=T4 a p.1
   rw [JH na (h p List.mem_cons_self)] at this
   exact this
  have gb:Au (rD b) (sD p.1)=(gt b p.1).map .int:=T4 b p.1
  have gi:DN (sD p.1) (rD b)=some (decide (p.1∈ks b)):=kU b p.1
  rw [hb,show (ks (p :: L)).map sD=sD p.1 :: (ks L).map sD from rfl,BX]
  cases hg:gt b p.1 with
  | none=>
   have hk:p.1∉ks b:=Iw.mp hg
   rw [decide_eq_false hk] at gi
   refine ⟨some (.sh (sD p.1)),?_⟩
   simp! [gi]
  | some z=>
   have hk:p.1∈ks b:=Eu (Hb hg)
   rw [decide_eq_true hk] at gi
   rw [hg] at gb
   by_cases hz:z < p.2
   ·refine ⟨some (.sh (sD p.1)),?_⟩
    have hz':¬ p.2≤z:=by omega
    simp! [gi,ga,gb,hz,hz',decide_true,decide_false]
   ·refine ⟨x',?_⟩
    have hz':p.2≤z:=by omega
    simp! [gi,ga,gb,hz,hz',decide_true,decide_false,e]
theorem QY{a:Row}(b:Row)(na:(ks a).Nodup):AO K cs [rD a,rD b]=.ok (.bl (Bj a b)):=by
 have ed:AO K cs [rD a,rD b]=AB 3 (Ht K cs) [rD a,rD b]:=AJ rfl
 rw [ed]
 unfold Ht
 obtain ⟨x',e⟩:=Oh (b:=b) na a none fun p hp=>hp
 cases hb:Bj a b with
 | true=>
  rw [hb,if_pos rfl] at e
  have hf:=O1 (i:=0) (r:=a) (ρ:=[some (.sh (rD a)),some (.sh (rD b)),none]) rfl rfl e
  simp! [hf]
 | false=>
  rw [hb,if_neg (by decide)] at e
  have hf:=fF (i:=0) (r:=a) (ρ:=[some (.sh (rD a)),some (.sh (rD b)),none]) rfl rfl e
  simp! [hf]
theorem cV(i:List Dt):EM [.ptp i,.ty "tuple"]=some (.bl true):=Jm i
theorem Su(i:Int):Bz K cs [.int i]=.ok (.bl true):=by
 have ed:Bz K cs [.int i]=AB 1 (FQ K cs) [.int i]:=AJ rfl
 rw [ed]
 unfold FQ
 simp! []
theorem cz(k z:Kn):Lm .LtE (.str (S k)) (.str (S z))=some (!decide (z < k)):=by
 unfold Lm
 show (if PySem.W.alike (.str (S k)) (.str (S z))=true∧j6 (.str (S k))=false∧(PyData.str (S k)).depth≤60 then some (jD .LtE (.str (S k)) (.str (S z))) else none)=_
 rw [if_pos ⟨by simp [PySem.W.alike],rfl,by simp [PyData.depth]⟩]
 show some (!PySem.W.dataLt (.str (S z)) (.str (S k)))=_
 rw [PySem.W.dataLt_str,Xu,Xu]
theorem Xs{A:Row}{k:Kn}{x:Int}(h:k∉ks A):Dl A k x=A ++ [(k,x)]:=if_neg h
theorem Pw{d0 d1 d2:Option Lo}:∀ (L A:Row) (z:Kn) (x5:Option Lo),(ks (A ++ L)).Nodup→(∀ p∈L,z < p.1)→Up L→A.length + L.length≤1000→∃ x4' x5',Bm (Ai 5) (Ao (BR (Cb (AM (FD.t1 (eB EM (Ab (Aa 5) (Ab (eC (.ty "tuple")) Ag))) AR)) (FD.t2 (eB CI (Ab (Aa 5) Ag)) (eC (.int 2)) Q4)) (AE (eC .non) []) Ar)
  (Ao (BR (Cb (AM (FD.t1 (eB EM (Ab (FD.e2 (Aa 5) (eC (.int 0)) Bl) (Ab (eC (.ty "str")) Ag))) AR)) (Cb (AM (FD.t1 (Aj (Bz K cs) (Ab (FD.e2 (Aa 5) (eC (.int 1)) Bl) Ag)) AR)) (FD.t2 (FD.e2 (Aa 5) (eC (.int 0)) Bl) (Aa 4) (Lm .LtE)))) (AE (eC .non) []) Ar)
  (Ao (B2 4 (FD.e2 (Aa 5) (eC (.int 0)) Bl) [])
  (A8 3 (Aa 4) (FD.e2 (Aa 5) (eC (.int 1)) Bl) [])))) (L.map Jb) [d0,d1,d2,some (.od (Cc A) (D7 A)),some (.sh (.str (S z))),x5]=.ok .nx [d0,d1,d2,some (.od (Cc (A ++ L)) (D7 (A ++ L))),x4',x5']
 | [],A,z,x5,_,_,_,_=>⟨some (.sh (.str (S z))),x5,by rw [List.append_nil]; rfl⟩
 | p :: L,A,z,x5,nd,hz,up,hl=>by
  simp only [List.length_cons] at hl
  obtain ⟨u1,u2⟩:=List.pairwise_cons.mp up
  have e1:A ++ p :: L=(A ++ [p]) ++ L:=by rw [List.append_assoc]; rfl
  have hk:p.1∉ks A:=fun h=>by
   have:(ks A ++ p.1 :: ks L).Nodup:=by
    have e:ks (A ++ p :: L)=ks A ++ p.1 :: ks L:=by unfold ks; rw [List.map_append]; rfl
    rw [← e]; exact nd
   exact (List.nodup_append.mp this).2.2 p.1 h p.1 List.mem_cons_self rfl
  obtain ⟨x4',x5',e⟩:=Pw (d0:=d0) (d1:=d1) (d2:=d2) L (A ++ [p]) p.1 (some (.sh (Jb p))) (by rw [← e1]; exact nd) u1 u2 (by rw [List.length_append,List.length_singleton]; omega)
  have pk:E2 (Cc A) (Sum.inr (S p.1))=Cc (A ++ [p]):=(NT A p.1 p.2).trans (by rw [Xs hk])
  have pv:Df (Cc A) (D7 A) (Sum.inr (S p.1)) (.int p.2)=D7 (A ++ [p]):=(NY A p.1 p.2).trans (by rw [Xs hk])
  have hkl:(Cc A).length < 16777216:=by rw [Iy]; omega
  refine ⟨x4',x5',?_⟩
  have i0:Bl (Jb p) (.int 0)=some (.str (S p.1)):=rfl
  have i1:Bl (Jb p) (.int 1)=some (.int p.2):=rfl
  have gi:EM [Jb p,.ty "tuple"]=some (.bl true):=Jm _
  have gl:CI [Jb p]=some (.int 2):=rfl
  have lt:=cz p.1 z
  rw [decide_eq_true (hz p List.mem_cons_self)] at lt
  rw [e1,List.map_cons,BX]
  simp! [gi,gl,i0,i1,fG,Su,lt,pk,pv,hkl,beq_self_eq_true]
  exact e
def VR(r:Row):Prop:=Flat r∧r≠[]∧Yd r∧r.length≤1000
theorem jy{k:Kn}(h:k≠[]):([]:Kn) < k:=by
 cases k with
 | nil=>exact absurd rfl h
 | cons a l=>exact List.Lex.nil
theorem Sh{d0:Option Lo}:∀ (L A:List Row) (x2 x3 x4 x5:Option Lo),(∀ r∈L,VR r)→A.length + L.length≤1000→∃ x2' x3' x4' x5',Bm (Ai 2) (Ao (BR (Cb (AM (FD.t1 (eB EM (Ab (Aa 2) (Ab (eC (.ty "tuple")) Ag))) AR)) (FD.t2 (eB CI (Ab (Aa 2) Ag)) (eC (.int 0)) Lz)) (AE (eC .non) []) Ar)
  (Ao (Eb 3)
  (Ao (B2 4 (eC (.str "")) [])
  (Ao (AW (Ai 5) (AD (Aa 2)) [2]
  (Ao (BR (Cb (AM (FD.t1 (eB EM (Ab (Aa 5) (Ab (eC (.ty "tuple")) Ag))) AR)) (FD.t2 (eB CI (Ab (Aa 5) Ag)) (eC (.int 2)) Q4)) (AE (eC .non) []) Ar)
  (Ao (BR (Cb (AM (FD.t1 (eB EM (Ab (FD.e2 (Aa 5) (eC (.int 0)) Bl) (Ab (eC (.ty "str")) Ag))) AR)) (Cb (AM (FD.t1 (Aj (Bz K cs) (Ab (FD.e2 (Aa 5) (eC (.int 1)) Bl) Ag)) AR)) (FD.t2 (FD.e2 (Aa 5) (eC (.int 0)) Bl) (Aa 4) (Lm .LtE)))) (AE (eC .non) []) Ar)
  (Ao (B2 4 (FD.e2 (Aa 5) (eC (.int 0)) Bl) [])
  (A8 3 (Aa 4) (FD.e2 (Aa 5) (eC (.int 1)) Bl) [])))))
  (Du 1 (Aa 3) [3]))))) (L.map fD) [d0,some (.ol (A.map rD)),x2,x3,x4,x5]=.ok .nx [d0,some (.ol ((A ++ L).map rD)),x2',x3',x4',x5']
 | [],A,x2,x3,x4,x5,_,_=>⟨x2,x3,x4,x5,by rw [List.append_nil]; rfl⟩
 | r :: L,A,x2,x3,x4,x5,h,hl=>by
  simp only [List.length_cons] at hl
  obtain ⟨fl,ne,nm,sz⟩:=h r List.mem_cons_self
  obtain ⟨y4,y5,e1⟩:=Pw (d0:=d0) (d1:=some (.ol (A.map rD))) (d2:=some (.sh (fD r))) (K:=K) (cs:=cs) r [] [] x5 fl.nd (fun p hp=>jy (nm p hp).ne) fl.rise (by simpa using sz)
  obtain ⟨x2',x3',x4',x5',e⟩:=Sh (d0:=d0) L (A ++ [r]) (some (.sh (fD r))) (some (.sh (rD r))) y4 y5 (fun q hq=>h q (List.mem_cons_of_mem _ hq)) (by rw [List.length_append,List.length_singleton]; omega)
  refine ⟨x2',x3',x4',x5',?_⟩
  have ea:A ++ r :: L=(A ++ [r]) ++ L:=by rw [List.append_assoc]; rfl
  have em:A.map rD ++ [rD r]=(A ++ [r]).map rD:=by rw [List.map_append]; rfl
  have hlen:(A.map rD).length < 16777216:=by rw [List.length_map]; omega
  have gi:EM [fD r,.ty "tuple"]=some (.bl true):=cV _
  have gl:CI [fD r]=some (.int r.length):=by unfold fD; rw [Vb,List.length_map]
  have hb:((r.length:Int) == (0:Int))=false:=beq_eq_false_iff_ne.mpr (by have:=List.length_pos_iff.mpr ne; omega)
  have he:Dt.str (S [])=Dt.str (Str.ofString ""):=by rw [Ny]; rfl
  rw [he] at e1
  have hf:AW (Ai 5) (AD (Aa 2)) [2] (Ao (BR (Cb (AM (FD.t1 (eB EM (Ab (Aa 5) (Ab (eC (.ty "tuple")) Ag))) AR)) (FD.t2 (eB CI (Ab (Aa 5) Ag)) (eC (.int 2)) Q4)) (AE (eC .non) []) Ar)
  (Ao (BR (Cb (AM (FD.t1 (eB EM (Ab (FD.e2 (Aa 5) (eC (.int 0)) Bl) (Ab (eC (.ty "str")) Ag))) AR)) (Cb (AM (FD.t1 (Aj (Bz K cs) (Ab (FD.e2 (Aa 5) (eC (.int 1)) Bl) Ag)) AR)) (FD.t2 (FD.e2 (Aa 5) (eC (.int 0)) Bl) (Aa 4) (Lm .LtE)))) (AE (eC .non) []) Ar)
  (Ao (B2 4 (FD.e2 (Aa 5) (eC (.int 0)) Bl) [])
  (A8 3 (Aa 4) (FD.e2 (Aa 5) (eC (.int 1)) Bl) [])))) [d0,some (.ol (A.map rD)),some (.sh (fD r)),some (.od [] []),some (.sh (.str (Str.ofString ""))),x5]=.ok .nx [d0,some (.ol (A.map rD)),some (.sh (fD r)),some (.od (Cc r) (D7 r)),y4,y5]:=e1
  have hz:AQ (.dic (Cc r) (D7 r)) [3] [d0,some (.ol (A.map rD)),some (.sh (fD r)),some (.od (Cc r) (D7 r)),y4,y5]=[d0,some (.ol (A.map rD)),some (.sh (fD r)),some (.sh (rD r)),y4,y5]:=rfl
  have em:A.map rD ++ [.dic (Cc r) (D7 r)]=(A ++ [r]).map rD:=em
  rw [ea,List.map_cons,BX]
  simp! [gi,gl,hb,hf,hz,hlen,em]
  exact e
theorem jw{L:List Row}(h:∀ r∈L,VR r)(h0:L≠[])(hl:L.length≤1000):Io K cs [.tup (L.map fD)]=.ok (.lst (L.map rD)):=by
 have ed:Io K cs [.tup (L.map fD)]=AB 6 (Im K cs) [.tup (L.map fD)]:=AJ rfl
 rw [ed]
 unfold Im
 obtain ⟨x2,x3,x4,x5,e⟩:=Sh (K:=K) (cs:=cs) (d0:=some (.sh (.tup (L.map fD)))) L [] none none none none h (by simpa using hl)
 have gl:CI [.tup (L.map fD)]=some (.int (L.length:Nat)):=by rw [M3,List.length_map]
 have hb:((L.length:Int) == (0:Int))=false:=beq_eq_false_iff_ne.mpr (by have:=List.length_pos_iff.mpr h0; omega)
 have hf:AW (Ai 2) (AD (Aa 0)) [0] (Ao (BR (Cb (AM (FD.t1 (eB EM (Ab (Aa 2) (Ab (eC (.ty "tuple")) Ag))) AR)) (FD.t2 (eB CI (Ab (Aa 2) Ag)) (eC (.int 0)) Lz)) (AE (eC .non) []) Ar)
  (Ao (Eb 3)
  (Ao (B2 4 (eC (.str "")) [])
  (Ao (AW (Ai 5) (AD (Aa 2)) [2]
  (Ao (BR (Cb (AM (FD.t1 (eB EM (Ab (Aa 5) (Ab (eC (.ty "tuple")) Ag))) AR)) (FD.t2 (eB CI (Ab (Aa 5) Ag)) (eC (.int 2)) Q4)) (AE (eC .non) []) Ar)
  (Ao (BR (Cb (AM (FD.t1 (eB EM (Ab (FD.e2 (Aa 5) (eC (.int 0)) Bl) (Ab (eC (.ty "str")) Ag))) AR)) (Cb (AM (FD.t1 (Aj (Bz K cs) (Ab (FD.e2 (Aa 5) (eC (.int 1)) Bl) Ag)) AR)) (FD.t2 (FD.e2 (Aa 5) (eC (.int 0)) Bl) (Aa 4) (Lm .LtE)))) (AE (eC .non) []) Ar)
  (Ao (B2 4 (FD.e2 (Aa 5) (eC (.int 0)) Bl) [])
  (A8 3 (Aa 4) (FD.e2 (Aa 5) (eC (.int 1)) Bl) [])))))
  (Du 1 (Aa 3) [3]))))) [some (.sh (.tup (L.map fD))),some (.ol []),none,none,none,none]=.ok .nx [some (.sh (.tup (L.map fD))),some (.ol (L.map rD)),x2,x3,x4,x5]:=e
 simp! [gl,hb,hf]
structure Lr (R:List Row):Prop where
 ne:R≠[]
 l:R.length≤100
 nd:∀ r∈R,(ks r).Nodup
 nn:∀ r∈R,r≠[]
 nm:∀ r∈R,Yd r
 r:∀ r∈R,r.length≤100
theorem Lr.sz{R:List Row}(h:Lr R):Sz R:=⟨by have:=h.l; omega,fun r hr=>by have:=h.r r hr; omega,h.nd⟩
theorem Lr.rs{R:List Row}(h:Lr R):Rs R:=⟨h.ne,h.nn,h.nd⟩
theorem Pf:∀ (T Kp:List Row),(keep Kp T).length≤Kp.length + T.length
 | [],Kp=>Nat.le_refl _
 | r :: T,Kp=>by
  unfold keep
  split
  ·have:=Pf T Kp; rw [List.length_cons]; omega
  ·have:=Pf T (Kp ++ [r]); rw [List.length_append,List.length_singleton] at this; rw [List.length_cons]; omega
theorem KH(R:List Row):(nf R).length≤R.length:=by
 have h1:=(rO.CC (keep [] (tO.sort (R.map flat)))).length_eq
 have h2:=(tO.CC (R.map flat)).length_eq
 have h3:=Pf (tO.sort (R.map flat)) []
 rw [List.length_map] at h2
 unfold nf lows
 rw [h1]
 simp only [List.length_nil] at h3
 omega
theorem Lr.nf{R:List Row}(h:Lr R):Lr (nf R)∧∀ l∈nf R,VR l:=by
 obtain ⟨a1,a2,a3,a4⟩:=Ej h.nd
 have hf:∀ l∈Nf.nf R,l≠[]∧Yd l∧l.length≤100:=fun l hl=>by
  obtain ⟨r,hr,rfl⟩:=a2 l hl
  exact ⟨OW (h.nn r hr),fun p hp=>h.nm r hr p ((DR r).mem_iff.mp hp),by rw [(DR r).length_eq]; exact h.r r hr⟩
 refine ⟨⟨fun e=>?_,by have:=KH R; have:=h.l; omega,fun l hl=>(a1.fl l hl).nd,fun l hl=>(hf l hl).1,fun l hl=>(hf l hl).2.1,fun l hl=>(hf l hl).2.2⟩,fun l hl=>⟨a1.fl l hl,(hf l hl).1,(hf l hl).2.1,by have:=(hf l hl).2.2; omega⟩⟩
 cases R with
 | nil=>exact h.ne rfl
 | cons r R=>
  obtain ⟨l,hl,_⟩:=a3 r List.mem_cons_self
  rw [e] at hl
  cases hl
theorem Ww{k:Kn}(h:Nm k):(sP k).canLay0=true:=by
 unfold sP
 rw [PyData.canLay0]
 show (S k).cps.all (· < 0x110000)=true
 rw [← Array.all_toList,Xu]
 exact List.all_eq_true.mpr fun c hc=>decide_eq_true (by have:=h.ch c hc; omega)
theorem Wr{p:Kn × Int}(h:Nm p.1):(pP p).canLay0=true:=by
 unfold pP
 rw [PyData.canLay0,PyData.canLayAll0,PyData.canLayAll0,Ww h]
 simp [PyData.canLay0,PyData.canLayAll0]
theorem Je{α:Type}{g:α→PyData}:∀ {l:List α},(∀ a∈l,(g a).canLay0=true)→PyData.canLayAll0 (l.map g)=true
 | [],_=>by simp [PyData.canLayAll0]
 | a :: l,h=>by
  rw [List.map_cons,PyData.canLayAll0,h a List.mem_cons_self,Je fun x hx=>h x (List.mem_cons_of_mem _ hx)]
  rfl
theorem Sn{r:Row}(h:Yd r):SeqAt.shaped (rP r)=true:=by
 have:=Qo r
 unfold SeqAt.shaped
 rw [decide_eq_true (by omega),Bool.and_true]
 unfold rP
 rw [PyData.canLay0]
 exact Je fun p hp=>Wr (h p hp)
theorem bz{l:Row}{F:List Row}(hl:l∈F)(h:∀ r∈F,Yd r):Rq (fD l) (.lst (F.map fD))=some true:=by
 unfold Rq
 rw [QF,Option.bind_some]
 show ((some (F.map fD)).bind fun es=>(Dt.Pb es).bind _)=_
 have hs:(F.map rP).all SeqAt.shaped=true:=List.all_eq_true.mpr fun x hx=>by
  obtain ⟨r,hr,rfl⟩:=List.mem_map.mp hx
  exact Sn (h r hr)
 rw [Option.bind_some,EC F fun r _=>QF r,Option.bind_some,if_pos ⟨Sn (h l hl),hs⟩]
 have hy:((F.map rP).any fun e=>PyData.eqv e (rP l))=true:=List.any_eq_true.mpr ⟨rP l,List.mem_map.mpr ⟨l,hl,rfl⟩,(SG l l).trans (decide_eq_true rfl)⟩
 rw [hy]
theorem YD(a b:Row):Lm .Lt (fD a) (fD b)=some (rO.lt a b):=by
 unfold Lm
 rw [QF,Option.bind_some,QF,Option.bind_some,if_pos ⟨M5 a b,rfl,by have:=Qo a; omega⟩]
 rfl
theorem bM{α:Type}(f:α→Bool)(l:List α):JV [.lst (l.map fun a=>.bl (f a))]=some (.bl (l.any f)):=by
 have e:(l.map fun a=>Dt.bl (f a))=(l.map f).map .bl:=by rw [List.map_map]; rfl
 unfold JV
 simp only
 rw [e,QN,Option.map_some,List.any_map]
 rfl
theorem UQ{α:Type}{f:α→Dt}{l:List α}{k:Nat}(h:k < l.length):atI (l.map f) (k:Int)=some (f l[k]):=by
 rw [FD.atI_nat,List.getElem?_map,List.getElem?_eq_getElem h]
 rfl
abbrev WW(R L:List Row)(x4 x5 x6 x7:Option Lo):FD.Env:=[some (.sh (.tup (L.map fD))),some (.sh (.lst (R.map rD))),some (.sh (.lst (L.map rD))),some (.ol ((R.map flat).map fD)),x4,x5,x6,x7]
theorem UU{R L:List Row}(hn:∀ l∈L,(ks l).Nodup)(hac:AC L){k:Nat}(hk:k < L.length){x4 x7:Option Lo}:∀ (l:List Nat) (x6:Option Lo),(∀ n∈l,n < L.length)→∃ x6',Bm (Ai 6) (BR (IX (FD.t2 (Aa 6) (Aa 5) Q4) (FD.t1 (Aj (AO K cs) (Ab (FD.e2 (Aa 2) (Aa 6) Bl) (Ab (FD.e2 (Aa 2) (Aa 5) Bl) Ag))) AR)) (AE (eC (.bl false)) []) Ar) (l.map fun n:Nat=>.int (n:Int)) (WW R L x4 (some (.sh (.int (k:Int)))) x6 x7)=.ok .nx (WW R L x4 (some (.sh (.int (k:Int)))) x6' x7)
 | [],x6,_=>⟨x6,rfl⟩
 | n :: l,x6,h=>by
  obtain ⟨x6',e⟩:=UU hn hac hk (x4:=x4) (x7:=x7) (R:=R) l (some (.sh (.int (n:Int)))) fun m hm=>h m (List.mem_cons_of_mem _ hm)
  have hnl:=h n List.mem_cons_self
  refine ⟨x6',?_⟩
  rw [List.map_cons,G6 (ρ1:=WW R L x4 (some (.sh (.int (k:Int)))) (some (.sh (.int (n:Int)))) x7) rfl]
  have e1:=UQ (f:=rD) hnl
  have e2:=UQ (f:=rD) hk
  have t:=QY (K:=K) (cs:=cs) (a:=L[n]) L[k] (hn _ (List.getElem_mem _))
  by_cases hnk:n=k
  ·have hb:((n:Int) == (k:Int))=true:=by rw [hnk]; exact beq_self_eq_true _
   simp! [hb]
   exact e
  ·have hb:((n:Int) == (k:Int))=false:=beq_eq_false_iff_ne.mpr (by omega)
   have hbf:Bj L[n] L[k]=false:=by
    cases hc:Bj L[n] L[k] with
    | false=>rfl
    | true=>
     have hbl:=(Fh (hn _ (List.getElem_mem hk))).mp hc
     have hp:=List.pairwise_iff_getElem.mp hac
     rcases Nat.lt_or_gt_of_ne hnk with z | z
     ·exact absurd hbl (hp n k hnl hk z).1
     ·exact absurd hbl (hp k n hk hnl z).2
   rw [hbf] at t
   simp! [hb,e1,e2,t]
   exact e
theorem eX{R:List Row}(h:Lr R){k:Nat}(hk:k < (nf R).length){x4 x5 x6 x7:Option Lo}:∃ x6',(Ao (BR (Cb (FD.t2 (FD.e2 (Aa 0) (Aa 5) Bl) (Aa 3) (Dq Rq)) (IX (FD.t2 (Aa 5) (eC (.int 0)) (cI fun i j=>decide (j < i))) (AM (FD.t2 (FD.e2 (Aa 0) (FD.e2 (Aa 5) (eC (.int 1)) (OL (· - ·))) Bl) (FD.e2 (Aa 0) (Aa 5) Bl) (Lm .Lt))))) (AE (eC (.bl false)) []) Ar)
  (AW (Ai 6) (Dr (Ab (eB CI (Ab (Aa 2) Ag)) Ag)) []
  (BR (IX (FD.t2 (Aa 6) (Aa 5) Q4) (FD.t1 (Aj (AO K cs) (Ab (FD.e2 (Aa 2) (Aa 6) Bl) (Ab (FD.e2 (Aa 2) (Aa 5) Bl) Ag))) AR)) (AE (eC (.bl false)) []) Ar))) (WW R (nf R) x4 (some (.sh (.int (k:Int)))) x6 x7)=.ok .nx (WW R (nf R) x4 (some (.sh (.int (k:Int)))) x6' x7):=by
 obtain ⟨a1,a2,a3,a4⟩:=Ej h.nd
 obtain ⟨x6',e⟩:=UU (K:=K) (cs:=cs) (R:=R) (fun l hl=>(a1.fl l hl).nd) a1.ac hk (x4:=x4) (x7:=x7) (List.range (nf R).length) x6 fun n hn=>List.mem_range.mp hn
 refine ⟨x6',?_⟩
 have e1:=UQ (f:=fD) hk
 have gi:Rq (fD (nf R)[k]) (.lst ((R.map flat).map fD))=some true:=by
  refine bz ?_ fun r hr=>?_
  ·obtain ⟨r,hr,e⟩:=a2 _ (List.getElem_mem hk)
   rw [e]
   exact List.mem_map.mpr ⟨r,hr,rfl⟩
  ·obtain ⟨x,hx,rfl⟩:=List.mem_map.mp hr
   exact fun p hp=>h.nm x hx p ((DR x).mem_iff.mp hp)
 have gl:CI [.lst ((nf R).map rD)]=some (.int ((nf R).length:Nat)):=by rw [KL,List.length_map]
 have hs:Fi ((nf R).length:Int)=true:=Kd (by omega) (by have:=KH R; have:=h.l; omega)
 have hf:AW (Ai 6) (Dr (Ab (eB CI (Ab (Aa 2) Ag)) Ag)) [] (BR (IX (FD.t2 (Aa 6) (Aa 5) Q4) (FD.t1 (Aj (AO K cs) (Ab (FD.e2 (Aa 2) (Aa 6) Bl) (Ab (FD.e2 (Aa 2) (Aa 5) Bl) Ag))) AR)) (AE (eC (.bl false)) []) Ar) (WW R (nf R) x4 (some (.sh (.int (k:Int)))) x6 x7)=.ok .nx (WW R (nf R) x4 (some (.sh (.int (k:Int)))) x6' x7):=by
  rw [BY]
  simp! [gl,Jz,hs,Int.toNat_natCast,TJ]
  exact e
 by_cases h0:0 < (k:Int)
 ·have ek:(k:Int) - 1=((k - 1:Nat):Int):=by omega
  have e2:=UQ (f:=fD) (l:=nf R) (k:=k - 1) (by omega)
  have lt:=YD (nf R)[k - 1] (nf R)[k]
  have hup:rO.lt (nf R)[k - 1] (nf R)[k]=true:=List.pairwise_iff_getElem.mp a1.up (k - 1) k (by omega) hk (by omega)
  rw [hup] at lt
  simp! [e1,gi,h0,decide_true,ek,e2,lt]
  exact hf
 ·simp! [e1,gi,h0,decide_false]
  exact hf
theorem XT{R:List Row}(h:Lr R){x5 x6:Option Lo}:∀ (Q:List Row) (x4 x7:Option Lo),(∀ r∈Q,r∈R)→∃ x4' x7',Bm (Ai 4) (BR (AM (FD.t1 (eB JV (Ab (eL (EA (Ai 7) [7] AI (Aj (AO K cs) (Ab (Aa 7) (Ab (Aa 4) Ag))) (AD (Aa 2)) [2])) Ag)) AR)) (AE (eC (.bl false)) []) Ar) (Q.map rD) (WW R (nf R) x4 x5 x6 x7)=.ok .nx (WW R (nf R) x4' x5 x6 x7')
 | [],x4,x7,_=>⟨x4,x7,rfl⟩
 | r :: Q,x4,x7,hQ=>by
  obtain ⟨a1,a2,a3,a4⟩:=Ej h.nd
  obtain ⟨x4',x7',e⟩:=XT h (x5:=x5) (x6:=x6) Q (some (.sh (rD r))) x7 fun q hq=>hQ q (List.mem_cons_of_mem _ hq)
  refine ⟨x4',x7',?_⟩
  have hr:=hQ r List.mem_cons_self
  rw [List.map_cons,G6 (ρ1:=WW R (nf R) (some (.sh (rD r))) x5 x6 x7) rfl]
  have hc:EA (Ai 7) [7] AI (Aj (AO K cs) (Ab (Aa 7) (Ab (Aa 4) Ag))) (AD (Aa 2)) [2] (WW R (nf R) (some (.sh (rD r))) x5 x6 x7)=.ok ((nf R).map fun l=>.bl (Bj l r)):=by
   refine CM (e:=rD) rfl (by have:=KH R; have:=h.l; omega) fun l hl=>⟨WW R (nf R) (some (.sh (rD r))) x5 x6 (some (.sh (rD l))),rfl,?_⟩
   have t:=QY (K:=K) (cs:=cs) r (a1.fl l hl).nd
   simp! [t]
  have ha:=bM (fun l=>Bj l r) (nf R)
  have hy:((nf R).any fun l=>Bj l r)=true:=by
   obtain ⟨l,hl,b⟩:=a3 r hr
   exact List.any_eq_true.mpr ⟨l,hl,(Fh (h.nd r hr)).mpr b⟩
  rw [hy] at ha
  simp! [hc,ha]
  exact e
theorem Yk{R:List Row}(h:Lr R):DI K cs [.tup ((nf R).map fD),.lst (R.map rD)]=.ok (.bl true):=by
 have ed:DI K cs [.tup ((nf R).map fD),.lst (R.map rD)]=AB 8 (GK K cs) [.tup ((nf R).map fD),.lst (R.map rD)]:=AJ rfl
 rw [ed]
 unfold GK
 obtain ⟨hL,hF⟩:=h.nf
 have t1:=jw (K:=K) (cs:=cs) hF hL.ne (by have:=hL.l; omega)
 have hc:EA (Ai 4) [4] AI (Aj (G1 K cs) (Ab (Aa 4) Ag)) (AD (Aa 1)) [1] [some (.sh (.tup ((nf R).map fD))),some (.sh (.lst (R.map rD))),some (.sh (.lst ((nf R).map rD))),none,none,none,none,none]=.ok ((R.map flat).map fD):=by
  rw [List.map_map]
  refine CM (e:=rD) rfl (by have:=h.l; omega) fun r hr=>⟨[some (.sh (.tup ((nf R).map fD))),some (.sh (.lst (R.map rD))),some (.sh (.lst ((nf R).map rD))),none,some (.sh (rD r)),none,none,none],rfl,?_⟩
  simp! [jb]
  rfl
 have gl:CI [.tup ((nf R).map fD)]=some (.int ((nf R).length:Nat)):=by rw [M3,List.length_map]
 have hs:Fi ((nf R).length:Int)=true:=Kd (by omega) (by have:=hL.l; omega)
 obtain ⟨ρ1,e1,x5,x6,hρ⟩:=RO (E:=fun ρ=>∃ x5 x6,ρ=WW R (nf R) none x5 x6 none) (u:=Ai 5) (b:=(Ao (BR (Cb (FD.t2 (FD.e2 (Aa 0) (Aa 5) Bl) (Aa 3) (Dq Rq)) (IX (FD.t2 (Aa 5) (eC (.int 0)) (cI fun i j=>decide (j < i))) (AM (FD.t2 (FD.e2 (Aa 0) (FD.e2 (Aa 5) (eC (.int 1)) (OL (· - ·))) Bl) (FD.e2 (Aa 0) (Aa 5) Bl) (Lm .Lt))))) (AE (eC (.bl false)) []) Ar)
  (AW (Ai 6) (Dr (Ab (eB CI (Ab (Aa 2) Ag)) Ag)) []
  (BR (IX (FD.t2 (Aa 6) (Aa 5) Q4) (FD.t1 (Aj (AO K cs) (Ab (FD.e2 (Aa 2) (Aa 6) Bl) (Ab (FD.e2 (Aa 2) (Aa 5) Bl) Ag))) AR)) (AE (eC (.bl false)) []) Ar)))) (e:=fun n:Nat=>.int (n:Int)) (List.range (nf R).length) (fun k hk ρ ⟨x5,x6,hρ⟩=>by
  obtain ⟨x6',e⟩:=eX (K:=K) (cs:=cs) h (List.mem_range.mp hk) (x4:=none) (x5:=none) (x6:=x6) (x7:=none)
  subst hρ
  exact ⟨_,_,rfl,e,_,_,rfl⟩) (WW R (nf R) none none none none) ⟨none,none,rfl⟩
 subst hρ
 obtain ⟨x4',x7',e2⟩:=XT (K:=K) (cs:=cs) h (x5:=x5) (x6:=x6) R none none fun _ h=>h
 have hf1:AW (Ai 5) (Dr (Ab (eB CI (Ab (Aa 0) Ag)) Ag)) [] (Ao (BR (Cb (FD.t2 (FD.e2 (Aa 0) (Aa 5) Bl) (Aa 3) (Dq Rq)) (IX (FD.t2 (Aa 5) (eC (.int 0)) (cI fun i j=>decide (j < i))) (AM (FD.t2 (FD.e2 (Aa 0) (FD.e2 (Aa 5) (eC (.int 1)) (OL (· - ·))) Bl) (FD.e2 (Aa 0) (Aa 5) Bl) (Lm .Lt))))) (AE (eC (.bl false)) []) Ar)
  (AW (Ai 6) (Dr (Ab (eB CI (Ab (Aa 2) Ag)) Ag)) []
  (BR (IX (FD.t2 (Aa 6) (Aa 5) Q4) (FD.t1 (Aj (AO K cs) (Ab (FD.e2 (Aa 2) (Aa 6) Bl) (Ab (FD.e2 (Aa 2) (Aa 5) Bl) Ag))) AR)) (AE (eC (.bl false)) []) Ar))) [some (.sh (.tup ((nf R).map fD))),some (.sh (.lst (R.map rD))),some (.sh (.lst ((nf R).map rD))),some (.ol ((R.map flat).map fD)),none,none,none,none]=.ok .nx [some (.sh (.tup ((nf R).map fD))),some (.sh (.lst (R.map rD))),some (.sh (.lst ((nf R).map rD))),some (.ol ((R.map flat).map fD)),none,x5,x6,none]:=by
  rw [BY]
  simp! [gl,Jz,hs,Int.toNat_natCast,TJ]
  exact e1
 have hf2:AW (Ai 4) (AD (Aa 1)) [1] (BR (AM (FD.t1 (eB JV (Ab (eL (EA (Ai 7) [7] AI (Aj (AO K cs) (Ab (Aa 7) (Ab (Aa 4) Ag))) (AD (Aa 2)) [2])) Ag)) AR)) (AE (eC (.bl false)) []) Ar) [some (.sh (.tup ((nf R).map fD))),some (.sh (.lst (R.map rD))),some (.sh (.lst ((nf R).map rD))),some (.ol ((R.map flat).map fD)),none,x5,x6,none]=.ok .nx [some (.sh (.tup ((nf R).map fD))),some (.sh (.lst (R.map rD))),some (.sh (.lst ((nf R).map rD))),some (.ol ((R.map flat).map fD)),x4',x5,x6,x7']:=e2
 simp! [t1,FD.EO,hc,hf1,hf2]
theorem W5(r:Row):(fD r).pure=true:=by
 unfold fD
 rw [Dt.pure]
 induction r with
 | nil=>rfl
 | cons p r ih=>rw [List.map_cons,Dt.E7,ih]; rfl
def du(r:Row):Dt:=.lst (r.map Jb)
def Ze(r:Row):PyData:=.list (r.map pP)
theorem jH(r:Row):(du r).py=some (Ze r):=by
 unfold du
 rw [Dt.py,EC r fun p _=>WT p]
 rfl
theorem fL(a b:Row):PyData.eqv (Ze a) (Ze b)=decide (a=b):=by
 unfold Ze
 rw [PyData.eqv]
 exact NX a b
theorem La{α:Type}{g:α→PyData}[DecidableEq α](h:∀ a b,PyData.eqv (g a) (g b)=decide (a=b)):∀ a b:List α,PyData.eqvAll (a.map g) (b.map g)=decide (a=b)
 | [],[]=>by simp [PyData.eqvAll]
 | [],q :: b=>by simp [PyData.eqvAll]
 | p :: a,[]=>by simp [PyData.eqvAll]
 | p :: a,q :: b=>by
  rw [List.map_cons,List.map_cons,PyData.eqvAll,h,La h a b]
  simp
theorem Oo{L:List Row}(h:∀ r∈L,Yd r):SeqAt.shaped (.tuple (L.map rP))=true:=by
 have h2:=K1 Qo L
 unfold SeqAt.shaped
 rw [decide_eq_true (by rw [PyData.depth]; omega),Bool.and_true,PyData.canLay0]
 refine Je fun r hr=>?_
 unfold rP
 rw [PyData.canLay0]
 exact Je fun p hp=>Wr (h r hr p hp)
theorem WB{a b:Dt}{t:Bool}(h:Lz a b=some t):Q4 a b=some (!t):=by
 rw [jg]
 unfold Dq
 rw [h]
 rfl
end Lk16
namespace Lk16
open Nf
def Up(P:Kn→Int→Prop)(r:Row):Prop:=∀ p∈r,P p.1 p.2
def HY(P:Kn→Int→Prop):Prop:=∀ k x y,x≤y→P k y→P k x
def W(R:List Row)(P:Kn→Int→Prop):Prop:=∃ r∈R,Up P r
def gM(f:Kn→Int)(c:Int):Kn→Int→Prop:=fun k x=>f k + x≤c
theorem CP(f:Kn→Int)(c:Int):HY (gM f c):=fun k x y h z=>by unfold gM at *; omega
abbrev V(R:List Row)(f:Kn→Int)(c:Int):Prop:=W R (gM f c)
theorem XM{P:Kn→Int→Prop}{r:Row}(n:(ks r).Nodup):Up P r ↔ ∀ k x,gt r k=some x→P k x:=
 ⟨fun h k x e=>h _ (Hb e),fun h p hp=>h _ _ (JH n hp)⟩
def CJ(acc:Row)(p:Kn × Int):Row:=match gt acc p.1 with
 | some y=>if y < p.2 then Dl acc p.1 p.2 else acc
 | none=>Dl acc p.1 p.2
def Bh(a b:Row):Row:=b.foldl CJ a
theorem XN{a:Row}(n:(ks a).Nodup)(p:Kn × Int):(ks (CJ a p)).Nodup:=by
 unfold CJ
 split
 ·split
  ·exact PN n _ _
  ·exact n
 ·exact PN n _ _
theorem dP{a:Row}{p:Kn × Int}{k:Kn}:k∈ks (CJ a p) ↔ k∈ks a∨k=p.1:=by
 unfold CJ
 split
 ·rename_i y e
  split
  ·exact ⟨Ti,ZP⟩
  ·exact ⟨.inl,fun h=>h.elim id fun z=>by rw [z]; exact Eu (Hb e)⟩
 ·exact ⟨Ti,ZP⟩
theorem eH{P:Kn→Int→Prop}(hP:HY P){a:Row}(n:(ks a).Nodup)(p:Kn × Int):Up P (CJ a p) ↔ Up P a∧P p.1 p.2:=by
 unfold CJ
 split
 ·rename_i y e
  split
  ·rename_i h
   rw [XM (PN n _ _),XM n]
   constructor
   ·intro z
    have zp:P p.1 p.2:=z p.1 p.2 (by rw [IG,if_pos rfl])
    refine ⟨fun k x ek=>?_,zp⟩
    by_cases hk:k=p.1
    ·subst hk
     rw [e] at ek
     cases ek
     exact hP _ _ _ (by omega) zp
    ·exact z k x (by rw [IG,if_neg hk]; exact ek)
   ·rintro ⟨z1,z2⟩ k x ek
    rw [IG] at ek
    by_cases hk:k=p.1
    ·rw [if_pos hk] at ek
     cases ek
     rw [hk]
     exact z2
    ·rw [if_neg hk] at ek
     exact z1 k x ek
  ·rename_i h
   exact ⟨fun z=>⟨z,hP p.1 p.2 y (by omega) (z (p.1,y) (Hb e))⟩,fun z=>z.1⟩
 ·rename_i e
  rw [XM (PN n _ _),XM n]
  constructor
  ·intro z
   refine ⟨fun k x ek=>?_,z p.1 p.2 (by rw [IG,if_pos rfl])⟩
   by_cases hk:k=p.1
   ·subst hk
    rw [e] at ek
    cases ek
   ·exact z k x (by rw [IG,if_neg hk]; exact ek)
  ·rintro ⟨z1,z2⟩ k x ek
   rw [IG] at ek
   by_cases hk:k=p.1
   ·rw [if_pos hk] at ek
    cases ek
    rw [hk]
    exact z2
   ·rw [if_neg hk] at ek
    exact z1 k x ek
theorem O9:∀ {b a:Row},(ks a).Nodup→(ks (Bh a b)).Nodup
 | [],_,n=>n
 | p :: b,a,n=>O9 (b:=b) (XN n p)
theorem MC:∀ {b a:Row} {k:Kn},k∈ks (Bh a b) ↔ k∈ks a∨k∈ks b
 | [],a,k=>⟨.inl,fun h=>h.elim id fun z=>nomatch z⟩
 | p :: b,a,k=>by
  show k∈ks (Bh (CJ a p) b) ↔ k∈ks a∨k∈p.1 :: ks b
  rw [MC,dP,List.mem_cons]
  exact or_assoc
theorem Pm{P:Kn→Int→Prop}(hP:HY P):∀ {b a:Row},(ks a).Nodup→(Up P (Bh a b) ↔ Up P a∧Up P b)
 | [],a,_=>⟨fun z=>⟨z,fun p hp=>nomatch hp⟩,fun z=>z.1⟩
 | p :: b,a,n=>by
  show Up P (Bh (CJ a p) b) ↔ _
  rw [Pm hP (XN n p),eH hP n]
  constructor
  ·rintro ⟨⟨z1,z2⟩,z3⟩
   exact ⟨z1,fun q hq=>(List.mem_cons.mp hq).elim (fun e=>by rw [e]; exact z2) (z3 q)⟩
  ·rintro ⟨z1,z2⟩
   exact ⟨⟨z1,z2 p List.mem_cons_self⟩,fun q hq=>z2 q (List.mem_cons_of_mem _ hq)⟩
theorem LW{a b:Row}(h:a≠[]∨b≠[]):Bh a b≠[]:=by
 intro e
 have hn:∀ k,k∉ks (Bh a b):=fun k hk=>by rw [e] at hk; cases hk
 rcases h with h | h
 ·cases a with
  | nil=>exact h rfl
  | cons p a=>exact hn p.1 (MC.mpr (.inl List.mem_cons_self))
 ·cases b with
  | nil=>exact h rfl
  | cons p b=>exact hn p.1 (MC.mpr (.inr List.mem_cons_self))
def joinR(R S:List Row):List Row:=R.flatMap fun r=>S.map fun s=>Bh r s
def LP(k:Int)(r:Row):Row:=r.map fun p=>(p.1,p.2 + k)
def DW(k:Int)(R:List Row):List Row:=R.map (LP k)
theorem VA(k:Int)(r:Row):ks (LP k r)=ks r:=by
 unfold ks LP
 rw [List.map_map]
 rfl
theorem Xg{R S:List Row}{P:Kn→Int→Prop}:W (R ++ S) P ↔ W R P∨W S P:=by
 unfold W
 constructor
 ·rintro ⟨r,hr,h⟩
  exact (List.mem_append.mp hr).elim (fun z=>.inl ⟨r,z,h⟩) fun z=>.inr ⟨r,z,h⟩
 ·rintro (⟨r,hr,h⟩ | ⟨r,hr,h⟩)
  ·exact ⟨r,List.mem_append_left _ hr,h⟩
  ·exact ⟨r,List.mem_append_right _ hr,h⟩
theorem mem_join{R S:List Row}{x:Row}:x∈joinR R S ↔ ∃ r∈R,∃ s∈S,Bh r s=x:=by
 unfold joinR
 rw [List.mem_flatMap]
 exact ⟨fun ⟨r,hr,h⟩=>⟨r,hr,(List.mem_map.mp h).elim fun s hs=>⟨s,hs.1,hs.2⟩⟩,fun ⟨r,hr,s,hs,e⟩=>⟨r,hr,List.mem_map.mpr ⟨s,hs,e⟩⟩⟩
theorem SF{R S:List Row}{P:Kn→Int→Prop}(hP:HY P)(n:∀ r∈R,(ks r).Nodup):W (joinR R S) P ↔ W R P∧W S P:=by
 unfold W
 constructor
 ·rintro ⟨x,hx,h⟩
  obtain ⟨r,hr,s,hs,rfl⟩:=mem_join.mp hx
  obtain ⟨h1,h2⟩:=(Pm hP (n r hr)).mp h
  exact ⟨⟨r,hr,h1⟩,⟨s,hs,h2⟩⟩
 ·rintro ⟨⟨r,hr,h1⟩,⟨s,hs,h2⟩⟩
  exact ⟨Bh r s,mem_join.mpr ⟨r,hr,s,hs,rfl⟩,(Pm hP (n r hr)).mpr ⟨h1,h2⟩⟩
theorem c6{R:List Row}{P:Kn→Int→Prop}{k:Int}:W (DW k R) P ↔ W R fun j x=>P j (x + k):=by
 unfold W DW
 constructor
 ·rintro ⟨x,hx,h⟩
  obtain ⟨r,hr,rfl⟩:=List.mem_map.mp hx
  exact ⟨r,hr,fun p hp=>h _ (List.mem_map.mpr ⟨p,hp,rfl⟩)⟩
 ·rintro ⟨r,hr,h⟩
  refine ⟨_,List.mem_map.mpr ⟨r,hr,rfl⟩,fun p hp=>?_⟩
  obtain ⟨q,hq,rfl⟩:=List.mem_map.mp hp
  exact h q hq
theorem fC{R S:List Row}(n:∀ r∈R,(ks r).Nodup):∀ x∈joinR R S,(ks x).Nodup:=fun x hx=>by
 obtain ⟨r,hr,s,hs,rfl⟩:=mem_join.mp hx
 exact O9 (n r hr)
theorem Kl(R S:List Row):(joinR R S).length=R.length * S.length:=by
 unfold joinR
 induction R with
 | nil=>simp
 | cons r R ih=>rw [List.flatMap_cons,List.length_append,List.length_map,ih,List.length_cons,Nat.add_mul,Nat.one_mul,Nat.add_comm]
theorem kB(P:Kn→Int→Prop):W [[]] P:=⟨[],List.mem_singleton.mpr rfl,fun p hp=>nomatch hp⟩
theorem ie:∀ x∈([[]]:List Row),(ks x).Nodup:=fun x hx=>by rw [List.mem_singleton.mp hx]; exact List.nodup_nil
theorem aq{R:Kn→List Row}{P:Kn→Int→Prop}(hP:HY P):HY fun k x=>W (R k) fun j y=>P j (y + x):=fun k x y h ⟨r,hr,z⟩=>⟨r,hr,fun p hp=>hP _ _ _ (by omega) (z p hp)⟩
theorem Nr.W{R S:List Row}(d:Nr R S){P:Kn→Int→Prop}(hP:HY P)(h:W S P):W R P:=by
 obtain ⟨s,hs,z⟩:=h
 obtain ⟨r,hr,b⟩:=d s hs
 refine ⟨r,hr,fun p hp=>?_⟩
 obtain ⟨y,hy,l⟩:=b p hp
 exact hP _ _ _ l (z _ hy)
theorem g9(R:List Row):∃ F:Int,∀ r∈R,∀ p∈r,0 < F + p.2:=by
 have h1:∀ r:Row,∃ F:Int,∀ p∈r,0 < F + p.2:=fun r=>by
  induction r with
  | nil=>exact ⟨0,fun p hp=>nomatch hp⟩
  | cons p r ih=>
   obtain ⟨F,h⟩:=ih
   refine ⟨max F (1 - p.2),fun q hq=>?_⟩
   rcases List.mem_cons.mp hq with e | hq
   ·rw [e]; omega
   ·have:=h q hq; omega
 induction R with
 | nil=>exact ⟨0,fun r hr=>nomatch hr⟩
 | cons r R ih=>
  obtain ⟨F,h⟩:=ih
  obtain ⟨F',h'⟩:=h1 r
  refine ⟨max F F',fun q hq p hp=>?_⟩
  rcases List.mem_cons.mp hq with e | hq
  ·have:=h' p (by rw [← e]; exact hp); omega
  ·have:=h q hq p hp; omega
theorem Xx{R S:List Row}(n:∀ s∈S,(ks s).Nodup)(h:∀ f c,V S f c→V R f c):Nr R S:=fun s hs=>by
 obtain ⟨F,hF⟩:=g9 R
 have hu:Up (gM (fq s F) 0) s:=fun p hp=>by
  unfold gM fq
  rw [JH (n s hs) hp]
  show 0 - p.2 + p.2≤0
  omega
 obtain ⟨r,hr,z⟩:=h (fq s F) 0 ⟨s,hs,hu⟩
 refine ⟨r,hr,fun p hp=>?_⟩
 have q:=z p hp
 unfold gM fq at q
 cases e:gt s p.1 with
 | none=>rw [e] at q; have:=hF r hr p hp; have q:F + p.2≤0:=q; omega
 | some x=>rw [e] at q; exact ⟨x,Hb e,by have q:0 - x + p.2≤0:=q; omega⟩
theorem ji{R S:List Row}(n:∀ r∈R,(ks r).Nodup)(n':∀ r∈S,(ks r).Nodup):nf R=nf S ↔ ∀ f c,V R f c ↔ V S f c:=by
 rw [iA n n']
 constructor
 ·rintro ⟨d,d'⟩ f c
  exact ⟨Nr.W d' (CP f c),Nr.W d (CP f c)⟩
 ·intro h
  exact ⟨Xx n' fun f c=>(h f c).mpr,Xx n fun f c=>(h f c).mp⟩
theorem YQ{R:List Row}(n:∀ r∈R,(ks r).Nodup){P:Kn→Int→Prop}(hP:HY P):W (nf R) P ↔ W R P:=by
 obtain ⟨_,_,d,d'⟩:=Ej n
 exact ⟨Nr.W d' hP,Nr.W d hP⟩
theorem UY{R:List Row}{f:Kn→Int}{c:Int}(h:R≠[])(hn:∀ r∈R,r≠[]):vl R f≤c ↔ V R f c:=by
 rw [kj h]
 constructor
 ·rintro ⟨r,hr,z⟩
  exact ⟨r,hr,(g5 (hn r hr)).mp z⟩
 ·rintro ⟨r,hr,z⟩
  exact ⟨r,hr,(g5 (hn r hr)).mpr z⟩
end Lk16
namespace Lk16
open PySem L2 FD SX TL Nf
variable {K:PySem.W.Frag} {cs:Cs}
theorem Gr.merge{A:List Kn}{a b:Row}(h:Gr A a)(h':Gr A b):Gr A (Bh a b):=⟨O9 h.nd,fun k hk=>(MC.mp hk).elim (h.sub k) (h'.sub k)⟩
theorem Gr.flat{A:List Kn}{a:Row}(h:Gr A a):Gr A (flat a):=⟨(NM h.nd).nd,fun k hk=>h.sub k ((XI (DR a)).mem_iff.mp hk)⟩
theorem Gr.shift{A:List Kn}{a:Row}(h:Gr A a)(x:Int):Gr A (LP x a):=⟨by rw [VA]; exact h.nd,by rw [VA]; exact h.sub⟩
def GL(A:List Kn)(R:List Row):Prop:=∀ r∈R,Gr A r
theorem GL.nd{A:List Kn}{R:List Row}(h:GL A R):∀ r∈R,(ks r).Nodup:=fun r hr=>(h r hr).nd
theorem GL.join{A:List Kn}{R S:List Row}(h:GL A R)(h':GL A S):GL A (joinR R S):=fun x hx=>by
 obtain ⟨r,hr,s,hs,rfl⟩:=mem_join.mp hx
 exact (h r hr).merge (h' s hs)
theorem GL.shift{A:List Kn}{R:List Row}(h:GL A R)(x:Int):GL A (DW x R):=fun r hr=>by
 obtain ⟨q,hq,rfl⟩:=List.mem_map.mp hr
 exact (h q hq).shift x
theorem GL.app{A:List Kn}{R S:List Row}(h:GL A R)(h':GL A S):GL A (R ++ S):=fun r hr=>(List.mem_append.mp hr).elim (h r) (h' r)
theorem GL.nf{A:List Kn}{R:List Row}(h:GL A R):GL A (nf R):=fun l hl=>by
 obtain ⟨_,m,_,_⟩:=Ej h.nd
 obtain ⟨r,hr,rfl⟩:=m l hl
 exact (h r hr).flat
theorem GL.sz{A:List Kn}{R:List Row}(h:GL A R)(hA:A.length≤20)(hl:R.length≤1000):Sz R:=⟨hl,fun r hr=>by have:=(h r hr).len; omega,h.nd⟩
theorem NF.ne{R:List Row}(n:∀ r∈R,(ks r).Nodup)(h:∀ r∈R,r≠[]):∀ l∈nf R,l≠[]:=fun l hl=>by
 obtain ⟨_,m,_,_⟩:=Ej n
 obtain ⟨r,hr,rfl⟩:=m l hl
 exact OW (h r hr)
theorem bK{R:List Row}(h:∀ r∈R,Flat r):nf R=lows R:=by
 unfold nf
 rw [List.map_congr_left (g:=id) fun r hr=>(h r hr).self,List.map_id]
theorem UR{R:List Row}(n:∀ r∈R,(ks r).Nodup):∀ l∈nf R,Flat l:=(Ej n).1.fl
theorem Oc{d0 d1:Option Lo}:∀ (b acc:Row) (x3 x4:Option Lo),acc.length + b.length≤1000→∃ x3' x4',Bm (FC (AY (Ai 3) (AY (Ai 4) Fc))) (BR (Cb (FD.t2 (Aa 3) (Aa 2) (Dq DN)) (FD.t2 (Aa 4) (FD.e2 (Aa 2) (Aa 3) Au) (cI fun i j=>decide (j < i)))) (A8 2 (Aa 3) (Aa 4) [4]) Ar) (b.map Jb) [d0,d1,some (.od (Cc acc) (D7 acc)),x3,x4]=.ok .nx [d0,d1,some (.od (Cc (Bh acc b)) (D7 (Bh acc b))),x3',x4']
 | [],acc,x3,x4,_=>⟨x3,x4,rfl⟩
 | p :: b,acc,x3,x4,hl=>by
  simp only [List.length_cons] at hl
  have lp:=Lc acc p.1 p.2
  have ls:(CJ acc p).length≤acc.length + 1:=by
   unfold CJ
   split
   ·split
    ·exact lp
    ·omega
   ·exact lp
  obtain ⟨x3',x4',e⟩:=Oc (d0:=d0) (d1:=d1) b (CJ acc p) (some (.sh (.str (S p.1)))) (some (.sh (.int p.2))) (by omega)
  refine ⟨x3',x4',?_⟩
  have em:Bh acc (p :: b)=Bh (CJ acc p) b:=rfl
  have hu:FC (AY (Ai 3) (AY (Ai 4) Fc)) (Jb p) [d0,d1,some (.od (Cc acc) (D7 acc)),x3,x4]=some [d0,d1,some (.od (Cc acc) (D7 acc)),some (.sh (.str (S p.1))),some (.sh (.int p.2))]:=by
   unfold Jb
   simp! []
  have gi:DN (.str (S p.1)) (.dic (Cc acc) (D7 acc))=some (decide (p.1∈ks acc)):=kU acc p.1
  have ga:Au (.dic (Cc acc) (D7 acc)) (.str (S p.1))=(gt acc p.1).map .int:=T4 acc p.1
  have pk:E2 (Cc acc) (Sum.inr (S p.1))=Cc (Dl acc p.1 p.2):=NT acc p.1 p.2
  have pv:Df (Cc acc) (D7 acc) (Sum.inr (S p.1)) (.int p.2)=D7 (Dl acc p.1 p.2):=NY acc p.1 p.2
  have hkl:(Cc acc).length < 16777216:=by rw [Iy]; omega
  have gi':decide (Sum.inr (S p.1)∈Cc acc)=decide (p.1∈ks acc):=decide_eq_decide.mpr Ii
  rw [em,List.map_cons,G6 hu]
  cases hg:gt acc p.1 with
  | none=>
   have hk:p.1∉ks acc:=Iw.mp hg
   have es:CJ acc p=Dl acc p.1 p.2:=by unfold CJ; rw [hg]
   rw [es] at e
   rw [decide_eq_false hk] at gi gi'
   rw [es]
   simp! [gi,gi',pk,pv,hkl,FD.Ee,e]
  | some y=>
   have hk:p.1∈ks acc:=Eu (Hb hg)
   rw [decide_eq_true hk] at gi gi'
   rw [hg] at ga
   by_cases hy:y < p.2
   ·have es:CJ acc p=Dl acc p.1 p.2:=by unfold CJ; rw [hg]; exact if_pos hy
    rw [es] at e
    rw [es]
    simp! [gi,gi',ga,hy,decide_true,pk,pv,hkl,FD.Ee,e]
   ·have es:CJ acc p=acc:=by unfold CJ; rw [hg]; exact if_neg hy
    rw [es] at e
    rw [es]
    simp! [gi,gi',ga,hy,decide_false,e]
theorem aR{A:List Kn}{a b:Row}(ha:Gr A a)(hb:Gr A b)(hA:A.length≤20):Ky K cs [fD a,fD b]=.ok (fD (flat (Bh a b))):=by
 have ed:Ky K cs [fD a,fD b]=AB 5 (L8 K cs) [fD a,fD b]:=AJ rfl
 rw [ed]
 unfold L8
 obtain ⟨x3,x4,e⟩:=Oc (d0:=some (.sh (fD a))) (d1:=some (.sh (fD b))) b a none none (by have:=ha.len; have:=hb.len; omega)
 have hd:KZ 2 (Ab (Aa 0) Ag) [some (.sh (fD a)),some (.sh (fD b)),none,none,none]=.ok .nx [some (.sh (fD a)),some (.sh (fD b)),some (.od (Cc a) (D7 a)),none,none]:=by
  rw [V2]
  show (IL (Out.ok [fD a]) _ fun ds=>match Fg ds with
   | some (.dic ks es)=>if Dt.E7 es=true then SOut.ok .nx ([some (.sh (fD a)),some (.sh (fD b)),none,none,none].set 2 (some (.od ks es))) else .bad
   | _=>.bad)=_
  rw [Fb,KU ha.nd]
  show (if Dt.E7 (D7 a)=true then _ else _)=_
  rw [if_pos (Xo a)]
  rfl
 have hf:AW (FC (AY (Ai 3) (AY (Ai 4) Fc))) (AD (Aa 1)) [1] (BR (Cb (FD.t2 (Aa 3) (Aa 2) (Dq DN)) (FD.t2 (Aa 4) (FD.e2 (Aa 2) (Aa 3) Au) (cI fun i j=>decide (j < i)))) (A8 2 (Aa 3) (Aa 4) [4]) Ar) [some (.sh (fD a)),some (.sh (fD b)),some (.od (Cc a) (D7 a)),none,none]=.ok .nx [some (.sh (fD a)),some (.sh (fD b)),some (.od (Cc (Bh a b)) (D7 (Bh a b))),x3,x4]:=e
 have t:HU K cs [.dic (Cc (Bh a b)) (D7 (Bh a b))]=.ok (fD (flat (Bh a b))):=Vo (Bh a b)
 have hz:∀ ρ,AQ (fD (flat (Bh a b))) [2] ρ=ρ:=fun ρ=>CA (W5 _)
 simp! [hd,hf,t,hz]
theorem Vl{α:Type}{i:Nat}{src1:FD.Env→Out (List Dt)}{lk1 vs1:List Nat}{u1:Dt→FD.Env→Option FD.Env}{t1:FD.Env→Out Bool}{f:FD.Env→Out Dt}{ρ:FD.Env}{e:α→Dt}{g:α→List Dt}{es:List Dt}(he:es.length≤16777216):∀ {xs:List α},(∀ x∈xs,src1 (ρ.set i (some (.sh (e x))))=.ok es∧lk1.all (G0 (ρ.set i (some (.sh (e x)))))=true∧OF u1 t1 f (BJ (ρ.set i (some (.sh (e x)))) vs1) es=.ok (g x))→PD (Ai i) AI src1 lk1 u1 vs1 t1 f ρ (xs.map e)=.ok (xs.flatMap g)
 | [],_=>rfl
 | x :: xs,h=>by
  obtain ⟨h1,h2,h3⟩:=h x List.mem_cons_self
  rw [List.map_cons]
  unfold PD
  rw [HI]
  simp only [B3,Out.AA,O0,Cf,if_true,h1,he,h2,and_self]
  rw [h3,Out.AA,Vl he fun y hy=>h y (List.mem_cons_of_mem _ hy)]
  rfl
def tD(L:List Row):Dt:=.tup (L.map fD)
theorem EG(L:List Row):(tD L).pure=true:=by
 unfold tD
 rw [Dt.pure]
 induction L with
 | nil=>rfl
 | cons r L ih=>rw [List.map_cons,Dt.E7,ih,W5]; rfl
theorem Uv{A:List Kn}{R Q:List Row}(hR:GL A R)(hQ:GL A Q)(hA:A.length≤20)(hl:R.length * Q.length≤1000)(lR:R.length≤1000)(lQ:Q.length≤1000)(hn:∀ s∈Q,s≠[]):F8 K cs [tD R,tD Q]=.ok (tD (nf (joinR R Q))):=by
 have ed:F8 K cs [tD R,tD Q]=AB 4 (Ms K cs) [tD R,tD Q]:=AJ rfl
 rw [ed]
 unfold Ms
 have ej:(joinR R Q).map flat=R.flatMap fun r=>Q.map fun s=>flat (Bh r s):=by
  unfold joinR
  rw [List.map_flatMap]
  simp only [List.map_map]
  rfl
 have hc:(bU (Ai 2) [2,3] AI (AD (Aa 1)) [1] (Ai 3) [3] AI (Aj (Ky K cs) (Ab (Aa 2) (Ab (Aa 3) Ag))) (AD (Aa 0)) [0]) [some (.sh (tD R)),some (.sh (tD Q)),none,none]=.ok (((joinR R Q).map flat).map fD):=by
  have src:AD (Aa 0) [some (.sh (tD R)),some (.sh (tD Q)),none,none]=.ok (R.map fD):=rfl
  unfold bU
  rw [src,Out.AA,if_pos (by rw [List.length_map]; omega)]
  show (OC (PD (Ai 2) AI _ [1] (Ai 3) [3] AI _ [some (.sh (tD R)),some (.sh (tD Q)),none,none] (R.map fD))).bind _=_
  rw [Vl (es:=Q.map fD) (g:=fun r=>Q.map fun s=>fD (flat (Bh r s))) (by rw [List.length_map]; omega) fun r hr=>⟨rfl,rfl,?_⟩]
  ·have e2:(R.flatMap fun r=>Q.map fun s=>fD (flat (Bh r s)))=((joinR R Q).map flat).map fD:=by
    rw [ej,List.map_flatMap]
    simp only [List.map_map]
    rfl
   rw [Cf,Out.AA,e2,if_pos (by rw [List.length_map,List.length_map,Kl]; omega)]
  ·refine Mj (e:=fD) fun s hs=>⟨[some (.sh (tD R)),some (.sh (tD Q)),some (.sh (fD r)),some (.sh (fD s))],rfl,?_⟩
   have t:=aR (K:=K) (cs:=cs) (hR r hr) (hQ s hs) hA
   simp! [t]
 have hj:=hR.join hQ
 have t:=QB (K:=K) (cs:=cs) (R:=(joinR R Q).map flat) (hj.sz hA (by rw [Kl]; omega)).flat fun x hx=>by
  obtain ⟨y,hy,rfl⟩:=List.mem_map.mp hx
  obtain ⟨r,hr,s,hs,rfl⟩:=mem_join.mp hy
  exact OW (LW (.inr (hn s hs)))
 have hz:∀ lk ρ,AQ (.tup ((lows ((joinR R Q).map flat)).map fD)) lk ρ=ρ:=fun lk ρ=>CA (EG _)
 simp! [hc,t,hz]
 rfl
theorem Ut{A:List Kn}{R Q:List Row}(hR:GL A R)(hQ:GL A Q)(fR:∀ r∈R,Flat r)(fQ:∀ r∈Q,Flat r)(hA:A.length≤20)(hl:R.length + Q.length≤1000)(nR:∀ s∈R,s≠[])(nQ:∀ s∈Q,s≠[]):ER K cs [tD R,tD Q]=.ok (tD (nf (R ++ Q))):=by
 have ed:ER K cs [tD R,tD Q]=AB 2 (MM K cs) [tD R,tD Q]:=AJ rfl
 rw [ed]
 unfold MM
 have hc:Qa (Aa 0) (Qa (Aa 1) Ag) [some (.sh (tD R)),some (.sh (tD Q))]=.ok ((R ++ Q).map fD):=by
  have e1:Qa (Aa 0) (Qa (Aa 1) Ag) [some (.sh (tD R)),some (.sh (tD Q))]=.ok (R.map fD ++ (Q.map fD ++ [])):=rfl
  rw [e1,List.append_nil,← List.map_append]
 have hle:((R ++ Q).map fD).length≤16777216:=by rw [List.length_map,List.length_append]; omega
 have t:=QB (K:=K) (cs:=cs) (R:=R ++ Q) ((hR.app hQ).sz hA (by rw [List.length_append]; omega)) fun x hx=>(List.mem_append.mp hx).elim (nR x) (nQ x)
 rw [← bK fun r hr=>(List.mem_append.mp hr).elim (fR r) (fQ r)] at t
 have hz:∀ lk ρ,AQ (.tup ((nf (R ++ Q)).map fD)) lk ρ=ρ:=fun lk ρ=>CA (EG _)
 simp! [hc,hle,t,hz]
 rfl
theorem Y6{R:List Row}{x:Int}(lR:R.length≤1000)(lr:∀ r∈R,r.length≤1000):HA K cs [tD R,.int x]=.ok (tD (DW x R)):=by
 have ed:HA K cs [tD R,.int x]=AB 5 (K5 K cs) [tD R,.int x]:=AJ rfl
 rw [ed]
 unfold K5
 have hc:(EA (Ai 2) [2] AI (eB Kx (Ab (eL (EA (FC (AY (Ai 3) (AY (Ai 4) Fc))) [3,4] AI (GZ (Ab (Aa 3) (Ab (FD.e2 (Aa 4) (Aa 1) AV) Ag))) (AD (Aa 2)) [2])) Ag)) (AD (Aa 0)) [0]) [some (.sh (tD R)),some (.sh (.int x)),none,none,none]=.ok ((DW x R).map fD):=by
  unfold DW
  rw [List.map_map]
  refine CM (e:=fD) rfl (by omega) fun r hr=>⟨[some (.sh (tD R)),some (.sh (.int x)),some (.sh (fD r)),none,none],rfl,?_⟩
  have hi:(EA (FC (AY (Ai 3) (AY (Ai 4) Fc))) [3,4] AI (GZ (Ab (Aa 3) (Ab (FD.e2 (Aa 4) (Aa 1) AV) Ag))) (AD (Aa 2)) [2]) [some (.sh (tD R)),some (.sh (.int x)),some (.sh (fD r)),none,none]=.ok ((LP x r).map Jb):=by
   unfold LP
   rw [List.map_map]
   refine CM (e:=Jb) rfl (by have:=lr r hr; omega) fun p hp=>⟨[some (.sh (tD R)),some (.sh (.int x)),some (.sh (fD r)),some (.sh (.str (S p.1))),some (.sh (.int p.2))],rfl,?_⟩
   simp! []
   rfl
  simp! [hi,LH]
  rfl
 have hz:∀ lk ρ,AQ (.tup ((DW x R).map fD)) lk ρ=ρ:=fun lk ρ=>CA (EG _)
 simp! [hc,hz]
 rfl
def Fe(A:List Kn)(g:Kn→List Row):Dt:=.dic (A.map kN) (A.map fun k=>tD (g k))
theorem kM(A:List Kn)(h:Kn→Dt){k:Kn}(hk:k∈A):SN (A.map kN) (A.map h) (kN k)=some (h k):=by
 induction A with
 | nil=>cases hk
 | cons a A ih=>
  rw [List.map_cons,List.map_cons]
  unfold SN
  by_cases e:a=k
  ·rw [if_pos (by rw [e]),e]
  ·rw [if_neg fun z=>e (HJ z)]
   rcases List.mem_cons.mp hk with z | z
   ·exact absurd z.symm e
   ·exact ih z
theorem Kw{A:List Kn}{g:Kn→List Row}{k:Kn}(hk:k∈A):Au (Fe A g) (.str (S k))=some (tD (g k)):=kM A _ hk
theorem iy(A:List Kn)(k:Kn)(vs:List Dt):DN (.str (S k)) (.dic (A.map kN) vs)=some (decide (k∈A)):=by
 show some (decide (kN k∈A.map kN))=_
 congr 1
 refine decide_eq_decide.mpr ⟨fun h=>?_,fun h=>List.mem_map.mpr ⟨k,h,rfl⟩⟩
 obtain ⟨a,ha,e⟩:=List.mem_map.mp h
 rw [← HJ e]
 exact ha
structure Fo (A:List Kn) (G:Kn→List Row) (b:Nat):Prop where
 g:∀ k∈A,GL A (G k)
 n:∀ k∈A,∀ r∈G k,r≠[]
 l:∀ k∈A,(G k).length≤b
 e:∀ k∈A,G k≠[]
def Hc(r:Row)(G:Kn→List Row)(Q:List Row):List Row:=r.foldl (fun Q p=>nf (joinR Q (DW p.2 (G p.1)))) Q
theorem Lf(x:Int)(R:List Row):(DW x R).length=R.length:=by unfold DW; rw [List.length_map]
theorem Ug{x:Int}{R:List Row}(h:∀ r∈R,r≠[]):∀ r∈DW x R,r≠[]:=fun r hr=>by
 obtain ⟨q,hq,rfl⟩:=List.mem_map.mp hr
 unfold LP
 simpa using h q hq
theorem Om(Q R:List Row):(nf (joinR Q R)).length≤Q.length * R.length:=by
 have:=KH (joinR Q R)
 rw [Kl] at this
 exact this
theorem QO{A:List Kn}{G:Kn→List Row}{b:Nat}(hG:Fo A G b)(hb:1≤b)(hb2:b≤1000)(hA:A.length≤20){d0:Option Lo}:∀ (r:Row) (Q:List Row) (x3 x4:Option Lo),(∀ k∈ks r,k∈A)→GL A Q→Q.length * b ^ r.length≤1000→Q.length≤1000 →
  ∃ x3' x4',Bm (FC (AY (Ai 3) (AY (Ai 4) Fc))) (B2 2 (Aj (F8 K cs) (Ab (Aa 2) (Ab (Aj (HA K cs) (Ab (FD.e2 (Aa 1) (Aa 3) Au) (Ab (Aa 4) Ag))) Ag))) [2,1,3,4]) (r.map Jb) [d0,some (.sh (Fe A G)),some (.sh (tD Q)),x3,x4]=.ok .nx [d0,some (.sh (Fe A G)),some (.sh (tD (Hc r G Q))),x3',x4']
 | [],Q,x3,x4,_,_,_,_=>⟨x3,x4,rfl⟩
 | p :: r,Q,x3,x4,hr,hQ,hl,hQl=>by
  have hp:p.1∈A:=hr p.1 List.mem_cons_self
  have hg:=hG.g p.1 hp
  have lg:=hG.l p.1 hp
  have pb:0 < b ^ r.length:=Nat.pow_pos hb
  rw [List.length_cons,Nat.pow_succ,Nat.mul_comm (b ^ r.length) b,← Nat.mul_assoc] at hl
  have l1:Q.length * (G p.1).length≤Q.length * b:=Nat.mul_le_mul_left _ lg
  have l2:Q.length * b≤Q.length * b * b ^ r.length:=Nat.le_mul_of_pos_right _ pb
  have l3:(nf (joinR Q (DW p.2 (G p.1)))).length≤Q.length * b:=by
   have:=Om Q (DW p.2 (G p.1))
   rw [Lf] at this
   omega
  have gs:=hg.shift p.2
  have lgl:(G p.1).length≤1000:=by omega
  obtain ⟨x3',x4',e⟩:=QO hG hb hb2 hA (d0:=d0) r (nf (joinR Q (DW p.2 (G p.1)))) (some (.sh (.str (S p.1)))) (some (.sh (.int p.2))) (fun k hk=>hr k (List.mem_cons_of_mem _ hk)) (hQ.join gs).nf (by
   have:=Nat.mul_le_mul_right (b ^ r.length) l3
   omega) (by omega)
  refine ⟨x3',x4',?_⟩
  have hu:FC (AY (Ai 3) (AY (Ai 4) Fc)) (Jb p) [d0,some (.sh (Fe A G)),some (.sh (tD Q)),x3,x4]=some [d0,some (.sh (Fe A G)),some (.sh (tD Q)),some (.sh (.str (S p.1))),some (.sh (.int p.2))]:=by
   unfold Jb
   simp! []
  have ga:=Kw (A:=A) (g:=G) hp
  have t1:=Y6 (K:=K) (cs:=cs) (R:=G p.1) (x:=p.2) lgl fun q hq=>by have:=(hg q hq).len; omega
  have t2:=Uv (K:=K) (cs:=cs) hQ gs hA (by rw [Lf]; omega) hQl (by rw [Lf]; exact lgl) (Ug (hG.n p.1 hp))
  have hz:∀ lk ρ,AQ (tD (nf (joinR Q (DW p.2 (G p.1))))) lk ρ=ρ:=fun lk ρ=>CA (EG _)
  rw [List.map_cons,G6 hu]
  simp! [ga,t1,t2,hz]
  exact e
theorem ba:Flat ([]:Row):=⟨List.nodup_nil,List.Pairwise.nil⟩
theorem VB{A:List Kn}{G:Kn→List Row}{b:Nat}(hG:Fo A G b){P:Kn→Int→Prop}(hP:HY P):∀ {r:Row} {Q:List Row},(∀ k∈ks r,k∈A)→(∀ x∈Q,(ks x).Nodup)→(W (Hc r G Q) P ↔ W Q P∧Up (fun k x=>W (G k) fun j y=>P j (y + x)) r)
 | [],Q,_,_=>⟨fun z=>⟨z,fun p hp=>nomatch hp⟩,fun z=>z.1⟩
 | p :: r,Q,hr,n=>by
  have nj:=fC (S:=DW p.2 (G p.1)) n
  show W (Hc r G (nf (joinR Q (DW p.2 (G p.1))))) P ↔ _
  rw [VB hG hP (fun k hk=>hr k (List.mem_cons_of_mem _ hk)) (fun x hx=>(UR nj x hx).nd),YQ nj hP,SF hP n,c6]
  constructor
  ·rintro ⟨⟨z1,z2⟩,z3⟩
   exact ⟨z1,fun q hq=>(List.mem_cons.mp hq).elim (fun e=>by rw [e]; exact z2) (z3 q)⟩
  ·rintro ⟨z1,z2⟩
   exact ⟨⟨z1,z2 p List.mem_cons_self⟩,fun q hq=>z2 q (List.mem_cons_of_mem _ hq)⟩
theorem Nw{A:List Kn}{G:Kn→List Row}{b:Nat}(hG:Fo A G b)(hb:1≤b):∀ {r:Row} {Q:List Row},(∀ k∈ks r,k∈A)→GL A Q→(∀ x∈Q,Flat x)→GL A (Hc r G Q)∧(∀ x∈Hc r G Q,Flat x)∧(Hc r G Q).length≤Q.length * b ^ r.length∧((r≠[]∨∀ x∈Q,x≠[])→∀ x∈Hc r G Q,x≠[])
 | [],Q,_,g,f=>⟨g,f,by simp [Hc],fun h=>h.elim (fun z=>absurd rfl z) id⟩
 | p :: r,Q,hr,g,f=>by
  have hp:=hr p.1 List.mem_cons_self
  have gj:=g.join ((hG.g p.1 hp).shift p.2)
  have hne:∀ x∈nf (joinR Q (DW p.2 (G p.1))),x≠[]:=NF.ne gj.nd fun x hx=>by
   obtain ⟨a,_,s,hs,rfl⟩:=mem_join.mp hx
   exact LW (.inr (Ug (hG.n p.1 hp) s hs))
  obtain ⟨i1,i2,i3,i4⟩:=Nw hG hb (r:=r) (Q:=nf (joinR Q (DW p.2 (G p.1)))) (fun k hk=>hr k (List.mem_cons_of_mem _ hk)) gj.nf (UR gj.nd)
  refine ⟨i1,i2,?_,fun _=>i4 (.inr hne)⟩
  have l0:=Om Q (DW p.2 (G p.1))
  rw [Lf] at l0
  have l1:Q.length * (G p.1).length≤Q.length * b:=Nat.mul_le_mul_left _ (hG.l p.1 hp)
  have l2:=Nat.mul_le_mul_right (b ^ r.length) (Nat.le_trans l0 l1)
  rw [List.length_cons,Nat.pow_succ,Nat.mul_comm (b ^ r.length) b,← Nat.mul_assoc]
  exact Nat.le_trans i3 l2
def place1(r:Row)(G:Kn→List Row):List Row:=Hc r G [[]]
theorem Wv(A:List Kn):GL A [[]]:=fun x hx=>by rw [List.mem_singleton.mp hx]; exact Gr.nil A
theorem aF:∀ x∈([[]]:List Row),Flat x:=fun x hx=>by rw [List.mem_singleton.mp hx]; exact ba
theorem SU{A:List Kn}{G:Kn→List Row}{b:Nat}(hG:Fo A G b)(hb:1≤b)(hb2:b≤1000)(hA:A.length≤20){r:Row}(hr:∀ k∈ks r,k∈A)(hl:b ^ r.length≤1000):EE K cs [fD r,Fe A G]=.ok (tD (place1 r G)):=by
 have ed:EE K cs [fD r,Fe A G]=AB 5 (Ho K cs) [fD r,Fe A G]:=AJ rfl
 rw [ed]
 unfold Ho
 obtain ⟨x3,x4,e⟩:=QO (K:=K) (cs:=cs) hG hb hb2 hA (d0:=some (.sh (fD r))) r [[]] none none hr (Wv A) (by simpa using hl) (by decide)
 have hf:AW (FC (AY (Ai 3) (AY (Ai 4) Fc))) (AD (Aa 0)) [0] (B2 2 (Aj (F8 K cs) (Ab (Aa 2) (Ab (Aj (HA K cs) (Ab (FD.e2 (Aa 1) (Aa 3) Au) (Ab (Aa 4) Ag))) Ag))) [2,1,3,4]) [some (.sh (fD r)),some (.sh (Fe A G)),some (.sh (.tup [.ptp []])),none,none]=.ok .nx [some (.sh (fD r)),some (.sh (Fe A G)),some (.sh (tD (place1 r G))),x3,x4]:=e
 have hz:∀ lk ρ,AQ (tD (place1 r G)) lk ρ=ρ:=fun lk ρ=>CA (EG _)
 simp! [cO,hf,hz]
def BH(R:List Row)(G:Kn→List Row)(Q:List Row):List Row:=R.foldl (fun Q r=>nf (Q ++ place1 r G)) Q
theorem a5{A:List Kn}{G:Kn→List Row}{b:Nat}(hG:Fo A G b){P:Kn→Int→Prop}(hP:HY P){r:Row}(hr:∀ k∈ks r,k∈A):W (place1 r G) P ↔ Up (fun k x=>W (G k) fun j y=>P j (y + x)) r:=by
 unfold place1
 rw [VB hG hP hr ie]
 exact ⟨fun z=>z.2,fun z=>⟨kB P,z⟩⟩
theorem PB{A:List Kn}{G:Kn→List Row}{b w:Nat}(hG:Fo A G b)(hb:1≤b):∀ {R Q:List Row},GL A R→(∀ r∈R,r≠[]∧r.length≤w)→GL A Q→(∀ x∈Q,Flat x)→(∀ x∈Q,x≠[]) →
  GL A (BH R G Q)∧(∀ x∈BH R G Q,Flat x)∧(∀ x∈BH R G Q,x≠[])∧(BH R G Q).length≤Q.length + R.length * b ^ w∧∀ P,HY P→(W (BH R G Q) P ↔ W Q P∨W R fun k x=>W (G k) fun j y=>P j (y + x))
 | [],Q,_,_,g,f,n=>⟨g,f,n,by simp [BH],fun P _=>⟨.inl,fun z=>z.elim id fun ⟨r,hr,_⟩=>nomatch hr⟩⟩
 | r :: R,Q,gR,hR,g,f,n=>by
  have hr:=(gR r List.mem_cons_self).sub
  obtain ⟨p1,p2,p3,p4⟩:=Nw hG hb (r:=r) (Q:=[[]]) hr (Wv A) aF
  have p4:=p4 (.inl (hR r List.mem_cons_self).1)
  have ga:=g.app (show GL A (place1 r G) from p1)
  have na:∀ x∈Q ++ place1 r G,x≠[]:=fun x hx=>(List.mem_append.mp hx).elim (n x) (p4 x)
  obtain ⟨i1,i2,i3,i4,i5⟩:=PB hG hb (w:=w) (R:=R) (Q:=nf (Q ++ place1 r G)) (fun x hx=>gR x (List.mem_cons_of_mem _ hx)) (fun x hx=>hR x (List.mem_cons_of_mem _ hx)) ga.nf (UR ga.nd) (NF.ne ga.nd na)
  refine ⟨i1,i2,i3,?_,fun P hP=>?_⟩
  ·have l1:=KH (Q ++ place1 r G)
   rw [List.length_append] at l1
   have l2:(place1 r G).length≤b ^ r.length:=by
    have q:(Hc r G [[]]).length≤b ^ r.length:=by simpa using p3
    exact q
   have l3:b ^ r.length≤b ^ w:=Nat.pow_le_pow_right hb (hR r List.mem_cons_self).2
   show (BH R G (nf (Q ++ place1 r G))).length≤_
   rw [List.length_cons,Nat.add_mul,Nat.one_mul]
   omega
  ·show W (BH R G (nf (Q ++ place1 r G))) P ↔ _
   rw [i5 P hP,YQ ga.nd hP,Xg,a5 hG hP hr]
   constructor
   ·rintro ((z | z) | ⟨x,hx,z⟩)
    ·exact .inl z
    ·exact .inr ⟨r,List.mem_cons_self,z⟩
    ·exact .inr ⟨x,List.mem_cons_of_mem _ hx,z⟩
   ·rintro (z | ⟨x,hx,z⟩)
    ·exact .inl (.inl z)
    ·rcases List.mem_cons.mp hx with e | hx
     ·rw [e] at z; exact .inl (.inr z)
     ·exact .inr ⟨x,hx,z⟩
theorem Ob{A:List Kn}{G:Kn→List Row}{b w:Nat}(hG:Fo A G b)(hb:1≤b)(hb2:b≤1000)(hw:b ^ w≤1000)(hA:A.length≤20){d0:Option Lo}:∀ (R Q:List Row) (x3:Option Lo),GL A R→(∀ r∈R,r≠[]∧r.length≤w)→GL A Q→(∀ x∈Q,Flat x)→(∀ x∈Q,x≠[])→Q.length + R.length * b ^ w≤1000 →
  ∃ x3',Bm (Ai 3) (B2 2 (Aj (ER K cs) (Ab (Aa 2) (Ab (Aj (EE K cs) (Ab (Aa 3) (Ab (Aa 1) Ag))) Ag))) [2,3,1]) (R.map fD) [d0,some (.sh (Fe A G)),some (.sh (tD Q)),x3]=.ok .nx [d0,some (.sh (Fe A G)),some (.sh (tD (BH R G Q))),x3']
 | [],Q,x3,_,_,_,_,_,_=>⟨x3,rfl⟩
 | r :: R,Q,x3,gR,hR,g,f,n,hl=>by
  have hr:=(gR r List.mem_cons_self).sub
  have l3:b ^ r.length≤b ^ w:=Nat.pow_le_pow_right hb (hR r List.mem_cons_self).2
  obtain ⟨p1,p2,p3,p4⟩:=Nw hG hb (r:=r) (Q:=[[]]) hr (Wv A) aF
  have p4:=p4 (.inl (hR r List.mem_cons_self).1)
  have l2:(place1 r G).length≤b ^ r.length:=by
    have q:(Hc r G [[]]).length≤b ^ r.length:=by simpa using p3
    exact q
  have ga:=g.app (show GL A (place1 r G) from p1)
  have na:∀ x∈Q ++ place1 r G,x≠[]:=fun x hx=>(List.mem_append.mp hx).elim (n x) (p4 x)
  have l1:=KH (Q ++ place1 r G)
  rw [List.length_append] at l1
  rw [List.length_cons,Nat.add_mul,Nat.one_mul] at hl
  obtain ⟨x3',e⟩:=Ob hG hb hb2 hw hA (d0:=d0) R (nf (Q ++ place1 r G)) (some (.sh (fD r))) (fun x hx=>gR x (List.mem_cons_of_mem _ hx)) (fun x hx=>hR x (List.mem_cons_of_mem _ hx)) ga.nf (UR ga.nd) (NF.ne ga.nd na) (by omega)
  refine ⟨x3',?_⟩
  have t1:=SU (K:=K) (cs:=cs) hG hb hb2 hA hr (by omega)
  have t2:=Ut (K:=K) (cs:=cs) g p1 f p2 hA (by have:(Hc r G [[]]).length≤b ^ r.length:=l2; omega) n p4
  have t2:ER K cs [tD Q,tD (place1 r G)]=.ok (tD (nf (Q ++ place1 r G))):=t2
  have hz:∀ lk ρ,AQ (tD (nf (Q ++ place1 r G))) lk ρ=ρ:=fun lk ρ=>CA (EG _)
  rw [List.map_cons,BX]
  simp! [t1,t2,hz]
  exact e
theorem bu{A:List Kn}{G:Kn→List Row}{b w:Nat}(hG:Fo A G b)(hb:1≤b)(hb2:b≤1000)(hw:b ^ w≤1000)(hA:A.length≤20){R:List Row}(gR:GL A R)(hR:∀ r∈R,r≠[]∧r.length≤w)(hl:R.length * b ^ w≤1000):J8 K cs [tD R,Fe A G]=.ok (tD (BH R G [])):=by
 have ed:J8 K cs [tD R,Fe A G]=AB 4 (Mg K cs) [tD R,Fe A G]:=AJ rfl
 rw [ed]
 unfold Mg
 obtain ⟨x3,e⟩:=Ob (K:=K) (cs:=cs) hG hb hb2 hw hA (d0:=some (.sh (tD R))) R [] none gR hR (fun x hx=>nomatch hx) (fun x hx=>nomatch hx) (fun x hx=>nomatch hx) (by simpa using hl)
 have hf:AW (Ai 3) (AD (Aa 0)) [0] (B2 2 (Aj (ER K cs) (Ab (Aa 2) (Ab (Aj (EE K cs) (Ab (Aa 3) (Ab (Aa 1) Ag))) Ag))) [2,3,1]) [some (.sh (tD R)),some (.sh (Fe A G)),some (.sh (.tup [])),none]=.ok .nx [some (.sh (tD R)),some (.sh (Fe A G)),some (.sh (tD (BH R G []))),x3]:=e
 have hz:∀ lk ρ,AQ (tD (BH R G [])) lk ρ=ρ:=fun lk ρ=>CA (EG _)
 simp! [hf,hz]
theorem aj(a b:Kn):PySem.W.alike (sP a) (sP b)=true:=rfl
def kO:Od Kn:=⟨fun k=>PySem.W.keyToks (sP k),fun a b e=>by
 have q:=Na (aj a b) e
 rw [Q3] at q
 exact of_decide_eq_true q⟩
theorem J7(l:List Kn):Cw [.lst (l.map sD)]=some ((kO.sort l).map sD):=by
 have h1:LQ (l.map sP)=true:=by
  unfold LQ
  refine List.all_eq_true.mpr fun x hx=>List.all_eq_true.mpr fun y hy=>?_
  obtain ⟨a,_,rfl⟩:=List.mem_map.mp hx
  obtain ⟨b,_,rfl⟩:=List.mem_map.mp hy
  rfl
 have h2:Ma (l.map sP)=true:=by
  unfold Ma
  rw [Bool.and_eq_true,Bool.or_eq_true]
  refine ⟨.inr (List.all_eq_true.mpr fun x hx=>?_),List.all_eq_true.mpr fun x hx=>?_⟩
  ·obtain ⟨a,_,rfl⟩:=List.mem_map.mp hx
   rfl
  ·obtain ⟨a,_,rfl⟩:=List.mem_map.mp hx
   exact decide_eq_true (by simp [sP,PyData.depth])
 unfold Cw
 show ((some (l.map sD):Option (List Dt)).bind fun ds=>(Dt.Pb ds).bind fun ps=>if LQ ps=true∧Ma ps=true then some (((ds.zip ps).mergeSort TU).map (·.1)) else none)=_
 simp only [Option.bind_some]
 rw [EC (f:=sD) (g:=sP) l fun _ _=>rfl]
 simp only [Option.bind_some]
 rw [if_pos ⟨h1,h2⟩]
 have hz:(l.map sD).zip (l.map sP)=l.map fun t=>(sD t,sP t):=List.zip_map'
 rw [hz]
 have hm:(l.map fun t=>(sD t,sP t)).mergeSort TU=(l.mergeSort kO.le).map fun t=>(sD t,sP t):=(List.map_mergeSort (l:=l) (f:=fun t=>(sD t,sP t)) (r:=kO.le) (s:=TU) (fun a _ b _=>rfl)).symm
 rw [hm,List.map_map]
 rfl
structure As (A:List Kn):Prop where
 nd:A.Nodup
 up:A.Pairwise fun a b=>kO.le a b=true
 l:A.length≤20
theorem As.sort{A:List Kn}(h:As A):kO.sort A=A:=kO.one (kO.CC A) (kO.K6 A) h.up
theorem WZ{N:List Kn}(n:N.Nodup)(l:N.length≤20):As (kO.sort N):=⟨(kO.CC N).nodup_iff.mpr n,kO.K6 N,by rw [(kO.CC N).length_eq]; exact l⟩
theorem WL(A:List Kn):(A.map kN).map IW=A.map sD:=by
 rw [List.map_map]
 rfl
theorem UA(A:List Kn)(vs:List Dt):Cg [.dic (A.map kN) vs]=some (A.map sD):=by
 show some ((A.map kN).map IW)=_
 rw [WL]
theorem KJ{i:Nat}{u:Dt→FD.Env→Option FD.Env}{b:FD.Env→SOut}{ρ:FD.Env}{A:List Kn}{vs:List Dt}{f:Fl}{ρ':FD.Env}(hi:ρ[i]? = some (some (.sh (.dic (A.map kN) vs))))(hl:frz [i] ρ=ρ)(h:Bm u b (A.map sD) ρ=.ok f ρ'):DU i u b ρ=.ok f ρ':=by
 have e:CO i ρ=.ok (A.map sD):=by
  unfold CO
  rw [hi]
  show Out.ok ((A.map kN).map IW)=_
  rw [WL]
 unfold DU
 rw [BY,e,Fb,hl,h]
theorem Gm{P:List Kn}{k:Kn}(h:k∉P):E2 (P.map kN) (Sum.inr (S k))=(P ++ [k]).map kN:=by
 have hn:Sum.inr (S k)∉P.map kN:=fun z=>by
  obtain ⟨a,ha,e⟩:=List.mem_map.mp z
  rw [← HJ (show kN a=kN k from e)] at h
  exact h ha
 unfold E2
 rw [if_neg hn,List.map_append]
 rfl
theorem Hf{P:List Kn}{k:Kn}(h:k∉P)(g:Kn→Dt):Df (P.map kN) (P.map g) (Sum.inr (S k)) (g k)=(P ++ [k]).map g:=by
 have hn:Sum.inr (S k)∉P.map kN:=fun z=>by
  obtain ⟨a,ha,e⟩:=List.mem_map.mp z
  rw [← HJ (show kN a=kN k from e)] at h
  exact h ha
 unfold Df
 rw [if_neg hn,List.map_append]
 rfl
theorem DZ{u:Dt→FD.Env→Option FD.Env}{b:FD.Env→SOut}{mk:List Kn→Option Lo→FD.Env}{A:List Kn}(nd:A.Nodup)(step:∀ P k L x,A=P ++ k :: L→k∉P→k∈A→∃ ρ1 x',u (sD k) (mk P x)=some ρ1∧b ρ1=.ok .nx (mk (P ++ [k]) x')):
  ∀ (L P:List Kn) (x:Option Lo),A=P ++ L→∃ x',Bm u b (L.map sD) (mk P x)=.ok .nx (mk A x')
 | [],P,x,e=>⟨x,by rw [e,List.append_nil]; rfl⟩
 | k :: L,P,x,e=>by
  have hk:k∉P:=fun z=>by
   rw [e] at nd
   exact (List.nodup_append.mp nd).2.2 k z k List.mem_cons_self rfl
  obtain ⟨ρ1,x',h1,h2⟩:=step P k L x e hk (by rw [e]; exact List.mem_append_right _ List.mem_cons_self)
  obtain ⟨x2,h3⟩:=DZ nd step L (P ++ [k]) x' (by rw [List.append_assoc]; exact e)
  exact ⟨x2,by rw [List.map_cons,G6 h1,h2]; exact h3⟩
theorem K8{A P L:List Kn}(h:A=P ++ L)(hA:A.length≤20):P.length < 16777216:=by
 have:=congrArg List.length h
 rw [List.length_append] at this
 omega
theorem map_len{α:Type}(P:List Kn)(f:Kn→α)(h:P.length < 16777216):(P.map f).length < 16777216:=by rw [List.length_map]; exact h
theorem VS{A:List Kn}(hA:As A){F G:Kn→List Row}{a b w:Nat}(hF:Fo A F a)(hw:∀ k∈A,∀ r∈F k,r.length≤w)(hG:Fo A G b)(hb:1≤b)(hl:a * b ^ w≤200)(ha:1≤a)(hb2:b≤1000):Jr K cs [Fe A F,Fe A G]=.ok (Fe A fun k=>BH (F k) G []):=by
 have ed:Jr K cs [Fe A F,Fe A G]=AB 4 (Jt K cs) [Fe A F,Fe A G]:=AJ rfl
 rw [ed]
 unfold Jt
 have hbw:b ^ w≤1000:=by
  have:b ^ w≤a * b ^ w:=Nat.le_mul_of_pos_left _ ha
  omega
 obtain ⟨x',e⟩:=DZ (u:=Ai 3) (b:=(A8 2 (Aa 3) (Aj (J8 K cs) (Ab (FD.e2 (Aa 0) (Aa 3) Au) (Ab (Aa 1) Ag))) [0,3,1])) (mk:=fun P x=>[some (.sh (Fe A F)),some (.sh (Fe A G)),some (.od (P.map kN) (P.map fun k=>tD (BH (F k) G []))),x]) hA.nd (fun P k L x eA hk hkA=>by
  refine ⟨[some (.sh (Fe A F)),some (.sh (Fe A G)),some (.od (P.map kN) (P.map fun k=>tD (BH (F k) G []))),some (.sh (sD k))],some (.sh (sD k)),rfl,?_⟩
  have lA:=hF.l k hkA
  have t:=bu (K:=K) (cs:=cs) hG hb hb2 hbw hA.l (hF.g k hkA) (fun r hr=>⟨hF.n k hkA r hr,hw k hkA r hr⟩) (by have:=Nat.mul_le_mul_right (b ^ w) lA; omega)
  have ga:Au (Fe A F) (sD k)=some (tD (F k)):=Kw hkA
  have hz:∀ lk ρ,AQ (tD (BH (F k) G [])) lk ρ=ρ:=fun lk ρ=>CA (EG _)
  have pk:=Gm hk
  have pv:=Hf hk fun k=>tD (BH (F k) G [])
  have hlen:=map_len P kN (K8 eA hA.l)
  unfold sD at ga ⊢
  simp! [ga,t,hz,pk,pv,hlen]) A [] none rfl
 have hf:=KJ (i:=0) (A:=A) (ρ:=[some (.sh (Fe A F)),some (.sh (Fe A G)),some (.od [] []),none]) rfl rfl e
 simp! [hf]
 rfl
def DB(R:List Row):Dt:=.lst (R.map rD)
def AN(N:List Kn)(F:Kn→List Row):Dt:=.dic (N.map kN) (N.map fun k=>DB (F k))
def Al(cs:Cs)(A:List Kn)(f:Kn→List Row):Dt:=.obj cs.c_Map ["_forms"] [Fe A f]
theorem JI{N:List Kn}{F:Kn→List Row}{k:Kn}(hk:k∈N):Au (AN N F) (.str (S k))=some (DB (F k)):=kM N _ hk
theorem iK(p:Kn × Int):(Jb p).na=true:=rfl
theorem jY(r:Row):(fD r).na=true:=by
 unfold fD
 rw [Dt.na]
 exact GN iK r
theorem lO(R:List Row):(tD R).na=true:=by
 unfold tD
 rw [Dt.na]
 exact GN jY R
theorem jq(R:List Row):(DB R).na=true:=by
 unfold DB
 rw [Dt.na]
 exact GN kH R
theorem bp(N:List Kn)(F:Kn→List Row):(AN N F).na=true:=by
 unfold AN
 rw [Dt.na]
 exact GN (fun k=>jq (F k)) N
theorem hU(N:List Kn)(F:Kn→List Row):(Fe N F).na=true:=by
 unfold Fe
 rw [Dt.na]
 exact GN (fun k=>lO (F k)) N
theorem EZ{ks:List Key}{ds:List Dt}{lk:List Nat}{ρ:FD.Env}:AQ (.dic ks ds) lk ρ=frz lk ρ:=rfl
theorem fV{R:List Row}(h:R.length≤200):Ff K cs [tD R]=.ok .non:=by
 have ed:Ff K cs [tD R]=AB 1 (Jp K cs) [tD R]:=AJ rfl
 rw [ed]
 unfold Jp
 have gl:CI [tD R]=some (.int (R.length:Nat)):=by unfold tD; rw [M3,List.length_map]
 have hb:decide ((200:Int) < (R.length:Int))=false:=decide_eq_false (by omega)
 simp! [gl,hb]
theorem O5{A:List Kn}{vs:List Dt}{d0 d2 d4:Option Lo}:∀ (L:List Kn) (x:Option Lo),(∀ k∈L,k∈A)→∃ x',Bm (Ai 3) (BR (FD.t2 (Aa 3) (Aa 1) (Dq DN)) Kg Ar) (L.map sD) [d0,some (.sh (.dic (A.map kN) vs)),d2,x,d4]=.ok .nx [d0,some (.sh (.dic (A.map kN) vs)),d2,x',d4]
 | [],x,_=>⟨x,rfl⟩
 | k :: L,x,h=>by
  obtain ⟨x',e⟩:=O5 (d0:=d0) (d2:=d2) (d4:=d4) (vs:=vs) L (some (.sh (sD k))) fun q hq=>h q (List.mem_cons_of_mem _ hq)
  have gi:DN (sD k) (.dic (A.map kN) vs)=some true:=by
   have:=iy A k vs
   rw [decide_eq_true (h k List.mem_cons_self)] at this
   exact this
  have gi':decide (Sum.inr (S k)∈A.map kN)=true:=decide_eq_true (List.mem_map.mpr ⟨k,h k List.mem_cons_self,rfl⟩)
  rw [List.map_cons,BX]
  refine ⟨x',?_⟩
  unfold sD at e ⊢
  simp! [gi',e]
theorem RY{A:List Kn}{vs:List Dt}{d0 d4:Option Lo}:∀ (R:List Row) (x2 x3:Option Lo),GL A R→∃ x2' x3',Bm (Ai 2) (AW (Ai 3) (AD (eL (lB Cw (Ab (eL (lB Cg (Ab (Aa 2) Ag))) Ag)))) [2]
  (BR (FD.t2 (Aa 3) (Aa 1) (Dq DN)) Kg Ar)) (R.map rD) [d0,some (.sh (.dic (A.map kN) vs)),x2,x3,d4]=.ok .nx [d0,some (.sh (.dic (A.map kN) vs)),x2',x3',d4]
 | [],x2,x3,_=>⟨x2,x3,rfl⟩
 | r :: R,x2,x3,h=>by
  obtain ⟨x3a,ea⟩:=O5 (d0:=d0) (d2:=some (.sh (rD r))) (d4:=d4) (vs:=vs) (A:=A) (kO.sort (ks r)) x3 fun k hk=>(h r List.mem_cons_self).sub k ((kO.CC _).mem_iff.mp hk)
  obtain ⟨x2',x3',e⟩:=RY (d0:=d0) (d4:=d4) (vs:=vs) (A:=A) R (some (.sh (rD r))) x3a fun q hq=>h q (List.mem_cons_of_mem _ hq)
  refine ⟨x2',x3',?_⟩
  have gk:Cg [rD r]=some ((ks r).map sD):=by
   show some ((Cc r).map IW)=_
   rw [Jj]
  have hf:AW (Ai 3) (AD (eL (lB Cw (Ab (eL (lB Cg (Ab (Aa 2) Ag))) Ag)))) [2] (BR (FD.t2 (Aa 3) (Aa 1) (Dq DN)) Kg Ar) [d0,some (.sh (.dic (A.map kN) vs)),some (.sh (rD r)),x3,d4]=.ok .nx [d0,some (.sh (.dic (A.map kN) vs)),some (.sh (rD r)),x3a,d4]:=by
   rw [BY]
   simp! [Ko,gk,J7]
   exact ea
  rw [List.map_cons,BX]
  simp! [hf]
  exact e
theorem Yo{N:List Kn}{F:Kn→List Row}{R:List Row}(hR:GL N R)(hN:N.length≤20)(h0:R≠[])(hn:∀ r∈R,r≠[])(hl:R.length≤200):DT K cs [DB R,AN N F]=.ok (tD (nf R)):=by
 have ed:DT K cs [DB R,AN N F]=AB 5 (FP K cs) [DB R,AN N F]:=AJ rfl
 rw [ed]
 unfold FP
 have t1:GU K cs [DB R]=.ok .non:=g7 h0 hn
 have t2:KN K cs [DB R]=.ok (tD (nf R)):=az (hR.sz hN (by omega)) hn
 have t3:=fV (K:=K) (cs:=cs) (R:=nf R) (by have:=KH R; omega)
 obtain ⟨x2,x3,e⟩:=RY (A:=N) (vs:=N.map fun k=>DB (F k)) (d0:=some (.sh (DB R))) (d4:=none) R none none hR
 have hf:AW (Ai 2) (AD (Aa 0)) [0] (AW (Ai 3) (AD (eL (lB Cw (Ab (eL (lB Cg (Ab (Aa 2) Ag))) Ag)))) [2]
  (BR (FD.t2 (Aa 3) (Aa 1) (Dq DN)) Kg Ar)) [some (.sh (DB R)),some (.sh (AN N F)),none,none,none]=.ok .nx [some (.sh (DB R)),some (.sh (AN N F)),x2,x3,none]:=e
 have hz:∀ lk ρ,AQ (tD (nf R)) lk ρ=ρ:=fun lk ρ=>CA (EG _)
 simp! [t1,hf,t2,t3,hz]
theorem W8(N:List Kn)(F:Kn→List Row):Cg [AN N F]=some (N.map sD):=UA N _
theorem XA(N:List Kn)(F:Kn→List Row):Cg [Fe N F]=some (N.map sD):=UA N _
theorem U0{N:List Kn}{vs:List Dt}:Iv [.dic (N.map kN) vs]=some (.int (N.length:Nat)):=by
 show some (Dt.int ((N.map kN).length:Nat))=_
 rw [List.length_map]
theorem WV{N:List Kn}{F:Kn→List Row}(nd:N.Nodup)(hl:N.length≤20)(h0:N≠[])(hF:Fo N F 200):newD cs.c_Map (Be K cs) [AN N F]=.ok (Al cs (kO.sort N) fun k=>nf (F k)):=by
 have ed:∀ c,Be K cs [.ad 0,AN N F] c=runM 4 (Ez K cs) [.ad 0,AN N F] c:=fun _=>GA rfl
 have hA:=WZ nd hl
 obtain ⟨x',e⟩:=DZ (u:=Ai 3) (b:=(A8 2 (Aa 3) (Aj (DT K cs) (Ab (FD.e2 (Aa 1) (Aa 3) Au) (Ab (Aa 1) Ag))) [1,3,1])) (mk:=fun P x=>[some (.sh (.ad 0)),some (.sh (AN N F)),some (.od (P.map kN) (P.map fun k=>tD (nf (F k)))),x,some (.mh [.ins cs.c_Map [] []])]) hA.nd (fun P k L x eA hk hkA=>by
  refine ⟨[some (.sh (.ad 0)),some (.sh (AN N F)),some (.od (P.map kN) (P.map fun k=>tD (nf (F k)))),some (.sh (sD k)),some (.mh [.ins cs.c_Map [] []])],some (.sh (sD k)),rfl,?_⟩
  have hkN:k∈N:=(kO.CC N).mem_iff.mp hkA
  have t:=Yo (K:=K) (cs:=cs) (F:=F) (hF.g k hkN) hl (hF.e k hkN) (hF.n k hkN) (hF.l k hkN)
  have ga:Au (AN N F) (sD k)=some (DB (F k)):=JI hkN
  have hz:∀ lk ρ,AQ (tD (nf (F k))) lk ρ=ρ:=fun lk ρ=>CA (EG _)
  have pk:=Gm hk
  have pv:=Hf hk fun k=>tD (nf (F k))
  have hlen:=map_len P kN (K8 eA hA.l)
  unfold sD at ga ⊢
  simp! [ga,t,hz,pk,pv,hlen]) (kO.sort N) [] none rfl
 have gk:=W8 N F
 have gl:Iv [AN N F]=some (.int (N.length:Nat)):=U0
 have hb:((N.length:Int) == (0:Int))=false:=beq_eq_false_iff_ne.mpr (by have:=List.length_pos_iff.mpr h0; omega)
 have hf:AW (Ai 3) (AD (eL (lB Cw (Ab (eL (lB Cg (Ab (Aa 1) Ag))) Ag)))) [1] (A8 2 (Aa 3) (Aj (DT K cs) (Ab (FD.e2 (Aa 1) (Aa 3) Au) (Ab (Aa 1) Ag))) [1,3,1]) [some (.sh (.ad 0)),some (.sh (AN N F)),some (.od [] []),none,some (.mh [.ins cs.c_Map [] []])]=.ok .nx [some (.sh (.ad 0)),some (.sh (AN N F)),some (.od ((kO.sort N).map kN) ((kO.sort N).map fun k=>tD (nf (F k)))),x',some (.mh [.ins cs.c_Map [] []])]:=by
  rw [BY]
  simp! [Ko,gk,J7]
  exact e
 have hi:runM 4 (Ez K cs) [.ad 0,AN N F] [.ins cs.c_Map [] []]=.ok .non [.ins cs.c_Map ["_forms"] [Fe (kO.sort N) fun k=>nf (F k)]]:=by
  unfold Ez
  simp! [gl,hb,hf,EZ,AF,List.mem_cons,true_or,putN,RU]
  rfl
 unfold newD
 rw [if_pos (by rw [Dt.IA,bp]; rfl),ed,hi]
 simp [Al,Dt.IA,hU]
theorem Q1{A:List Kn}{f g:Kn→List Row}(h:∀ k∈A,f k=g k):Al cs A f=Al cs A g:=by
 unfold Al Fe
 rw [List.map_congr_left fun k hk=>congrArg tD (h k hk)]
structure Mp (A:List Kn) (f:Kn→List Row) (b w:Nat):Prop where
 fo:Fo A f b
 w:∀ k∈A,∀ r∈f k,r.length≤w
 s:∀ k∈A,nf (f k)=f k
theorem j5{R:List Row}(n:∀ r∈R,(ks r).Nodup)(h:R≠[]):nf R≠[]:=by
 obtain ⟨_,_,d,_⟩:=Ej n
 obtain ⟨r,hr⟩:=List.exists_mem_of_ne_nil R h
 obtain ⟨l,hl,_⟩:=d r hr
 exact List.ne_nil_of_mem hl
theorem cD{R:List Row}(n:∀ r∈R,(ks r).Nodup){w:Nat}(h:∀ r∈R,r.length≤w):∀ l∈nf R,l.length≤w:=fun l hl=>by
 obtain ⟨_,m,_,_⟩:=Ej n
 obtain ⟨r,hr,rfl⟩:=m l hl
 rw [(DR r).length_eq]
 exact h r hr
theorem Fo.mp{A:List Kn}{F:Kn→List Row}{b w:Nat}(h:Fo A F b)(hw:∀ k∈A,∀ r∈F k,r.length≤w):Mp A (fun k=>nf (F k)) b w:=
 ⟨⟨fun k hk=>(h.g k hk).nf,fun k hk=>NF.ne (h.g k hk).nd (h.n k hk),fun k hk=>Nat.le_trans (KH _) (h.l k hk),fun k hk=>j5 (h.g k hk).nd (h.e k hk)⟩,fun k hk=>cD (h.g k hk).nd (hw k hk),fun k hk=>kP (h.g k hk).nd⟩
theorem Mp.fl{A:List Kn}{f:Kn→List Row}{b w:Nat}(h:Mp A f b w):∀ k∈A,∀ r∈f k,Flat r:=fun k hk=>by
 have:=UR (h.fo.g k hk).nd
 rw [h.s k hk] at this
 exact this
theorem Fo.mono{A:List Kn}{F:Kn→List Row}{b c:Nat}(h:Fo A F b)(hb:b≤c):Fo A F c:=⟨h.g,h.n,fun k hk=>Nat.le_trans (h.l k hk) hb,h.e⟩
theorem Pp{A:List Kn}(hA:As A)(h0:A≠[]){f:Kn→List Row}(hF:Fo A f 200):FZ K cs [Fe A f]=.ok (Al cs A fun k=>nf (f k)):=by
 have ed:FZ K cs [Fe A f]=AB 4 (Mi K cs) [Fe A f]:=AJ rfl
 rw [ed]
 unfold Mi
 obtain ⟨x',e⟩:=DZ (u:=Ai 2) (b:=(Ao (JK (Aj (Ff K cs) (Ab (FD.e2 (Aa 0) (Aa 2) Au) Ag)))
  (A8 1 (Aa 2) (eL (EA (Ai 3) [3] AI (eB Fg (Ab (Aa 3) Ag)) (AD (FD.e2 (Aa 0) (Aa 2) Au)) [0,2])) [0,2,3,3]))) (mk:=fun P x=>[some (.sh (Fe A f)),some (.od (P.map kN) (P.map fun k=>DB (f k))),x,none]) hA.nd (fun P k L x eA hk hkA=>by
  refine ⟨[some (.sh (Fe A f)),some (.od (P.map kN) (P.map fun k=>DB (f k))),some (.sh (sD k)),none],some (.sh (sD k)),rfl,?_⟩
  have t:=fV (K:=K) (cs:=cs) (hF.l k hkA)
  have ga:Au (Fe A f) (sD k)=some (tD (f k)):=Kw hkA
  have hi:(EA (Ai 3) [3] AI (eB Fg (Ab (Aa 3) Ag)) (AD (FD.e2 (Aa 0) (Aa 2) Au)) [0,2]) [some (.sh (Fe A f)),some (.od (P.map kN) (P.map fun k=>DB (f k))),some (.sh (sD k)),none]=.ok ((f k).map rD):=by
   refine CM (e:=fD) (by rw [CB]; simp! [ga]; rfl) (by have:=hF.l k hkA; omega) fun r hr=>⟨[some (.sh (Fe A f)),some (.od (P.map kN) (P.map fun k=>DB (f k))),some (.sh (sD k)),some (.sh (fD r))],rfl,?_⟩
   have:=KU (hF.g k hkA r hr).nd
   simp! [this]
  have pk:=Gm hk
  have pv:Df (P.map kN) (P.map fun k=>DB (f k)) (Sum.inr (S k)) (.lst ((f k).map rD))=(P ++ [k]).map fun k=>DB (f k):=Hf hk fun k=>DB (f k)
  have hlen:=map_len P kN (K8 eA hA.l)
  unfold sD at ga hi ⊢
  simp! [ga,t,hi,pk,pv,hlen]) A [] none rfl
 have gk:=XA A f
 have hf:AW (Ai 2) (AD (eL (lB Cw (Ab (eL (lB Cg (Ab (Aa 0) Ag))) Ag)))) [0] (Ao (JK (Aj (Ff K cs) (Ab (FD.e2 (Aa 0) (Aa 2) Au) Ag)))
  (A8 1 (Aa 2) (eL (EA (Ai 3) [3] AI (eB Fg (Ab (Aa 3) Ag)) (AD (FD.e2 (Aa 0) (Aa 2) Au)) [0,2])) [0,2,3,3])) [some (.sh (Fe A f)),some (.od [] []),none,none]=.ok .nx [some (.sh (Fe A f)),some (.od (A.map kN) (A.map fun k=>DB (f k))),x',none]:=by
  rw [BY]
  simp! [Ko,gk,J7,hA.sort]
  exact e
 have t:=WV (K:=K) (cs:=cs) hA.nd hA.l h0 hF
 rw [hA.sort] at t
 have t':newD cs.c_Map (Be K cs) [.dic (A.map kN) (A.map fun k=>DB (f k))]=.ok (Al cs A fun k=>nf (f k)):=t
 simp! [hf,t']
theorem cL{Cs:List Addr}{f:Str}{C:Addr}{ns:List Str}{ds:List Dt}(h:C∈Cs):DX Cs f (.obj C ns ds)=(ns.zip ds).lookup f:=if_pos h
theorem De(A:List Kn)(f:Kn→List Row):DX (AF cs) "_forms" (Al cs A f)=some (Fe A f):=by
 unfold Al
 rw [cL (by simp)]
 rfl
theorem NW{m:Str}{ψ:List Dt→Out Dt}{fo:FD.Env→Out Dt}{fs:FD.Env→Out (List Dt)}{ρ:FD.Env}{C:Addr}{ns:List Str}{ds as:List Dt}(ho:fo ρ=.ok (.obj C ns ds))(hm:m∉ns)(ha:fs ρ=.ok as):BM [(C,ψ)] m fo fs ρ=ψ (.obj C ns ds :: as):=by
 unfold BM
 rw [ho,Out.AA]
 simp only
 have el:List.lookup C [(C,ψ)]=some ψ:=by simp [List.lookup]
 rw [if_neg hm,el]
 simp only
 rw [ha]
 rfl
theorem fw(A:List Kn)(f:Kn→List Row):Ft K cs [Al cs A f]=.ok (.tup (A.map sD)):=by
 have ed:Ft K cs [Al cs A f]=AB 1 (Ih K cs) [Al cs A f]:=AJ rfl
 rw [ed]
 unfold Ih
 have g1:=De (cs:=cs) A f
 have g2:=XA A f
 simp! [g1,Ko,g2]
theorem Fp{A:List Kn}{f:Kn→List Row}{fo:FD.Env→Out Dt}{ρ:FD.Env}(h:fo ρ=.ok (Al cs A f)):BM (Bk K cs) "names" fo Ag ρ=.ok (.tup (A.map sD)):=
 (NW (m:=Str.ofString "names") (ψ:=Ft K cs) (fo:=fo) (fs:=Ag) (C:=cs.c_Map) (as:=[]) h (by decide) rfl).trans (fw A f)
theorem lI(A:List Kn)(f:Kn→List Row)(k:Kn):B9 K cs [Al cs A f,.str (S k)]=.ok (.bl (decide (k∈A))):=by
 have ed:B9 K cs [Al cs A f,.str (S k)]=AB 2 (D2 K cs) [Al cs A f,.str (S k)]:=AJ rfl
 rw [ed]
 unfold D2
 have g1:=De (cs:=cs) A f
 have g2:DN (.str (S k)) (Fe A f)=some (decide (k∈A)):=iy A k _
 simp! [g1,g2]
theorem SW{A:List Kn}{f:Kn→List Row}{k:Kn}{fa fb:FD.Env→Out Dt}{ρ:FD.Env}(ha:fa ρ=.ok (.str (S k)))(hb:fb ρ=.ok (Al cs A f)):Mb (Bb K cs) true fa fb ρ=.ok (.bl (!decide (k∈A))):=by
 unfold Mb
 rw [ha,Out.AA,hb,Out.AA]
 have el:List.lookup cs.c_Map (Bb K cs)=some (B9 K cs):=by simp [List.lookup]
 show (match List.lookup cs.c_Map (Bb K cs) with
  | some ψ=>(match ψ [Al cs A f,.str (S k)] with
   | .ok (.bl c)=>Out.ok (Dt.bl (xor true c))
   | _=>Out.bad)
  | none=>Out.bad)=_
 rw [el]
 simp only
 rw [lI]
 simp
theorem Vg{α:Type}{u:Dt→FD.Env→Option FD.Env}{t:FD.Env→Out Bool}{f:FD.Env→Out Dt}{ρ:FD.Env}{e:α→Dt}:∀ {xs:List α},(∀ x∈xs,∃ ρ1,u (e x) ρ=some ρ1∧t ρ1=.ok false)→OF u t f ρ (xs.map e)=.ok []
 | [],_=>rfl
 | x :: xs,h=>by
  obtain ⟨ρ1,h1,h2⟩:=h x List.mem_cons_self
  rw [List.map_cons,QA,h1]
  simp only [B3,Out.AA,h2,Cf]
  rw [if_neg (by decide)]
  exact Vg fun y hy=>h y (List.mem_cons_of_mem _ hy)
theorem Pz{α:Type}{u:Dt→FD.Env→Option FD.Env}{vs lk:List Nat}{t:FD.Env→Out Bool}{f:FD.Env→Out Dt}{src:FD.Env→Out (List Dt)}{ρ:FD.Env}{e:α→Dt}{xs:List α}(hs:src ρ=.ok (xs.map e))(hl:xs.length≤16777216)(h:∀ x∈xs,∃ ρ1,u (e x) (BJ (frz lk ρ) vs)=some ρ1∧t ρ1=.ok false):
  EA u vs t f src lk ρ=.ok []:=by
 rw [aC,hs,Out.AA,if_pos (by rw [List.length_map]; exact hl),Vg h]
theorem OT{A:List Kn}(hA:A.length≤20)(f g:Kn→List Row):D6 K cs [Al cs A f,Al cs A g]=.ok .non:=by
 have ed:D6 K cs [Al cs A f,Al cs A g]=AB 4 (Hn K cs) [Al cs A f,Al cs A g]:=AJ rfl
 rw [ed]
 unfold Hn
 have h1:(EA (Ai 3) [3] (FD.t1 (Mb (Bb K cs) true (Aa 3) (Aa 1)) AR) (Aa 3) (AD (BM (Bk K cs) "names" (Aa 0) Ag)) [0]) [some (.sh (Al cs A f)),some (.sh (Al cs A g)),none,none]=.ok []:=by
  refine Pz (e:=sD) (xs:=A) ?_ (by omega) fun k hk=>⟨[some (.sh (Al cs A f)),some (.sh (Al cs A g)),none,some (.sh (.str (S k)))],rfl,?_⟩
  ·rw [CB,Fp rfl]
   rfl
  ·have:=SW (K:=K) (cs:=cs) (A:=A) (f:=g) (k:=k) (fa:=Aa 3) (fb:=Aa 1) (ρ:=[some (.sh (Al cs A f)),some (.sh (Al cs A g)),none,some (.sh (.str (S k)))]) rfl rfl
   rw [decide_eq_true hk] at this
   rw [Of,this]
   rfl
 have h2:(EA (Ai 3) [3] (FD.t1 (Mb (Bb K cs) true (Aa 3) (Aa 0)) AR) (Aa 3) (AD (BM (Bk K cs) "names" (Aa 1) Ag)) [1]) [some (.sh (Al cs A f)),some (.sh (Al cs A g)),some (.sh (.lst [])),none]=.ok []:=by
  refine Pz (e:=sD) (xs:=A) ?_ (by omega) fun k hk=>⟨[some (.sh (Al cs A f)),some (.sh (Al cs A g)),some (.sh (.lst [])),some (.sh (.str (S k)))],rfl,?_⟩
  ·rw [CB,Fp rfl]
   rfl
  ·have:=SW (K:=K) (cs:=cs) (A:=A) (f:=f) (k:=k) (fa:=Aa 3) (fb:=Aa 0) (ρ:=[some (.sh (Al cs A f)),some (.sh (Al cs A g)),some (.sh (.lst [])),some (.sh (.str (S k)))]) rfl rfl
   rw [decide_eq_true hk] at this
   rw [Of,this]
   rfl
 have h2':(EA (Ai 3) [3] (FD.t1 (Mb (Bb K cs) true (Aa 3) (Aa 0)) AR) (Aa 3) (AD (BM (Bk K cs) "names" (Aa 1) Ag)) [1]) [some (.sh (Al cs A f)),some (.sh (Al cs A g)),some (.ol []),none]=.ok []:=by
  refine Pz (e:=sD) (xs:=A) ?_ (by omega) fun k hk=>⟨[some (.sh (Al cs A f)),some (.sh (Al cs A g)),some (.ol []),some (.sh (.str (S k)))],rfl,?_⟩
  ·rw [CB,Fp rfl]
   rfl
  ·have:=SW (K:=K) (cs:=cs) (A:=A) (f:=f) (k:=k) (fa:=Aa 3) (fb:=Aa 0) (ρ:=[some (.sh (Al cs A f)),some (.sh (Al cs A g)),some (.ol []),some (.sh (.str (S k)))]) rfl rfl
   rw [decide_eq_true hk] at this
   rw [Of,this]
   rfl
 have ga:AV (.lst []) (.lst [])=some (.lst []):=rfl
 have gl:CI [.lst []]=some (.int 0):=rfl
 simp! [h1,h2,h2',ga,gl,EO]
 rfl
theorem RS:∀ (b a:Row),(Bh a b).length≤a.length + b.length
 | [],a=>Nat.le_refl _
 | p :: b,a=>by
  have h:=RS b (CJ a p)
  have lp:=Lc a p.1 p.2
  have ls:(CJ a p).length≤a.length + 1:=by
   unfold CJ
   split
   ·split
    ·exact lp
    ·omega
   ·exact lp
  show (Bh (CJ a p) b).length≤_
  rw [List.length_cons]
  omega
def oJ(f g:Kn→List Row):Kn→List Row:=fun k=>nf (joinR (f k) (g k))
def oE(f g:Kn→List Row):Kn→List Row:=fun k=>nf (f k ++ g k)
def oP(f g:Kn→List Row):Kn→List Row:=fun k=>nf (BH (f k) g [])
section
variable {A:List Kn} {f g:Kn→List Row} {b c w v:Nat} {k:Kn} {P:Kn→Int→Prop}
theorem Fo.J(hf:Fo A f b)(hg:Fo A g c):Fo A (fun k=>joinR (f k) (g k)) (b * c):=
 ⟨fun k hk=>(hf.g k hk).join (hg.g k hk),fun k hk x hx=>by
  obtain ⟨r,hr,s,hs,rfl⟩:=mem_join.mp hx
  exact LW (.inl (hf.n k hk r hr)),fun k hk=>by
  rw [Kl]
  exact Nat.mul_le_mul (hf.l k hk) (hg.l k hk),fun k hk=>by
  obtain ⟨r,hr⟩:=List.exists_mem_of_ne_nil _ (hf.e k hk)
  obtain ⟨s,hs⟩:=List.exists_mem_of_ne_nil _ (hg.e k hk)
  exact List.ne_nil_of_mem (mem_join.mpr ⟨r,hr,s,hs,rfl⟩)⟩
theorem Fo.E(hf:Fo A f b)(hg:Fo A g c):Fo A (fun k=>f k ++ g k) (b + c):=
 ⟨fun k hk=>(hf.g k hk).app (hg.g k hk),fun k hk x hx=>(List.mem_append.mp hx).elim (hf.n k hk x) (hg.n k hk x),fun k hk=>by
  rw [List.length_append]
  exact Nat.add_le_add (hf.l k hk) (hg.l k hk),fun k hk=>List.append_ne_nil_of_left_ne_nil (hf.e k hk) _⟩
theorem Mp.J(hf:Mp A f b w)(hg:Mp A g c v):Mp A (oJ f g) (b * c) (w + v):=(hf.fo.J hg.fo).mp fun k hk x hx=>by
 obtain ⟨r,hr,s,hs,rfl⟩:=mem_join.mp hx
 have:=RS s r
 have:=hf.w k hk r hr
 have:=hg.w k hk s hs
 omega
theorem Mp.E(hf:Mp A f b w)(hg:Mp A g c v):Mp A (oE f g) (b + c) (max w v):=(hf.fo.E hg.fo).mp fun k hk x hx=>(List.mem_append.mp hx).elim (fun z=>Nat.le_trans (hf.w k hk x z) (Nat.le_max_left ..)) fun z=>Nat.le_trans (hg.w k hk x z) (Nat.le_max_right ..)
theorem R0(hf:Mp A f b w)(hg:Mp A g c v)(hk:k∈A)(hP:HY P):W (oJ f g k) P ↔ W (f k) P∧W (g k) P:=by
 unfold oJ
 rw [YQ ((hf.fo.g k hk).join (hg.fo.g k hk)).nd hP,SF hP (hf.fo.g k hk).nd]
theorem Sl(hf:Mp A f b w)(hg:Mp A g c v)(hk:k∈A)(hP:HY P):W (oE f g k) P ↔ W (f k) P∨W (g k) P:=by
 unfold oE
 rw [YQ ((hf.fo.g k hk).app (hg.fo.g k hk)).nd hP,Xg]
theorem Fd(hf:Mp A f b w)(hg:Mp A g c v)(hc:1≤c)(hk:k∈A):GL A (BH (f k) g [])∧(∀ x∈BH (f k) g [],Flat x)∧(∀ x∈BH (f k) g [],x≠[])∧(BH (f k) g []).length≤b * c ^ w∧∀ P,HY P→(W (BH (f k) g []) P ↔ W (f k) fun k x=>W (g k) fun j y=>P j (y + x)):=by
 obtain ⟨h1,h2,h3,h4,h5⟩:=PB hg.fo hc (w:=w) (R:=f k) (Q:=[]) (hf.fo.g k hk) (fun r hr=>⟨hf.fo.n k hk r hr,hf.w k hk r hr⟩) (fun x hx=>nomatch hx) (fun x hx=>nomatch hx) fun x hx=>nomatch hx
 refine ⟨h1,h2,h3,?_,fun P hP=>?_⟩
 ·have:=Nat.mul_le_mul_right (c ^ w) (hf.fo.l k hk)
  simp only [List.length_nil] at h4
  omega
 ·rw [h5 P hP]
  exact ⟨fun z=>z.elim (fun ⟨r,hr,_⟩=>nomatch hr) id,.inr⟩
theorem Fo.Pl(hf:Mp A f b w)(hg:Mp A g c v)(hc:1≤c):Fo A (fun k=>BH (f k) g []) (b * c ^ w):=
 ⟨fun k hk=>(Fd hf hg hc hk).1,fun k hk=>(Fd hf hg hc hk).2.2.1,fun k hk=>(Fd hf hg hc hk).2.2.2.1,fun k hk=>by
  have h:=(Fd hf hg hc hk).2.2.2.2 (fun _ _=>True) fun _ _ _ _ _=>trivial
  obtain ⟨r,hr⟩:=List.exists_mem_of_ne_nil _ (hf.fo.e k hk)
  obtain ⟨x,hx,_⟩:=h.mpr ⟨r,hr,fun p hp=>by
   obtain ⟨s,hs⟩:=List.exists_mem_of_ne_nil _ (hg.fo.e p.1 ((hf.fo.g k hk r hr).sub p.1 (Eu hp)))
   exact ⟨s,hs,fun _ _=>trivial⟩⟩
  exact List.ne_nil_of_mem hx⟩
theorem Mp.Pl(hA:As A)(hf:Mp A f b w)(hg:Mp A g c v)(hc:1≤c):Mp A (oP f g) (b * c ^ w) 20:=(Fo.Pl hf hg hc).mp fun k hk x hx=>Nat.le_trans ((Fd hf hg hc hk).1 x hx).len hA.l
theorem jL(hf:Mp A f b w)(hg:Mp A g c v)(hc:1≤c)(hk:k∈A)(hP:HY P):W (oP f g k) P ↔ W (f k) fun k x=>W (g k) fun j y=>P j (y + x):=by
 unfold oP
 rw [YQ (Fd hf hg hc hk).1.nd hP,(Fd hf hg hc hk).2.2.2.2 P hP]
end
theorem ae{A:List Kn}(hA:As A)(h0:A≠[]){f g:Kn→List Row}{b c w v:Nat}(hf:Mp A f b w)(hg:Mp A g c v)(hb:b * c≤200)(hb1:b≤200)(hc1:c≤200):FW K cs [Al cs A f,Al cs A g]=.ok (Al cs A (oJ f g)):=by
 have ed:FW K cs [Al cs A f,Al cs A g]=AB 4 (Hj K cs) [Al cs A f,Al cs A g]:=AJ rfl
 rw [ed]
 unfold Hj
 have q:=(hf.fo.J hg.fo)
 have qs:=(hf.J hg)
 obtain ⟨x',e⟩:=DZ (u:=Ai 3) (b:=(A8 2 (Aa 3) (Aj (F8 K cs) (Ab (FD.e2 (FD.e1 (Aa 0) (DX (AF cs) "_forms")) (Aa 3) Au) (Ab (FD.e2 (FD.e1 (Aa 1) (DX (AF cs) "_forms")) (Aa 3) Au) Ag))) [0,3,1,3])) (mk:=fun P x=>[some (.sh (Al cs A f)),some (.sh (Al cs A g)),some (.od (P.map kN) (P.map fun k=>tD (oJ f g k))),x]) hA.nd (fun P k L x eA hk hkA=>by
  refine ⟨[some (.sh (Al cs A f)),some (.sh (Al cs A g)),some (.od (P.map kN) (P.map fun k=>tD (oJ f g k))),some (.sh (sD k))],some (.sh (sD k)),rfl,?_⟩
  have hlf:=hf.fo.l k hkA
  have hlg:=hg.fo.l k hkA
  have hmul:=Nat.mul_le_mul hlf hlg
  have t:=Uv (K:=K) (cs:=cs) (hf.fo.g k hkA) (hg.fo.g k hkA) hA.l (by omega) (by omega) (by omega) (hg.fo.n k hkA)
  have g1:=De (cs:=cs) A f
  have g2:=De (cs:=cs) A g
  have ga:Au (Fe A f) (sD k)=some (tD (f k)):=Kw hkA
  have gb:Au (Fe A g) (sD k)=some (tD (g k)):=Kw hkA
  have hz:∀ lk ρ,AQ (tD (nf (joinR (f k) (g k)))) lk ρ=ρ:=fun lk ρ=>CA (EG _)
  have pk:=Gm hk
  have pv:Df (P.map kN) (P.map fun k=>tD (oJ f g k)) (Sum.inr (S k)) (tD (nf (joinR (f k) (g k))))=(P ++ [k]).map fun k=>tD (oJ f g k):=Hf hk fun k=>tD (oJ f g k)
  have hlen:=map_len P kN (K8 eA hA.l)
  unfold sD at ga gb ⊢
  simp! [g1,g2,ga,gb,t,hz,pk,pv,hlen]) A [] none rfl
 have hn:BM (Bk K cs) "names" (Aa 0) Ag [some (.sh (Al cs A f)),some (.sh (Al cs A g)),some (.od [] []),none]=.ok (.tup (A.map sD)):=Fp rfl
 have hf':AW (Ai 3) (AD (BM (Bk K cs) "names" (Aa 0) Ag)) [0] (A8 2 (Aa 3) (Aj (F8 K cs) (Ab (FD.e2 (FD.e1 (Aa 0) (DX (AF cs) "_forms")) (Aa 3) Au) (Ab (FD.e2 (FD.e1 (Aa 1) (DX (AF cs) "_forms")) (Aa 3) Au) Ag))) [0,3,1,3]) [some (.sh (Al cs A f)),some (.sh (Al cs A g)),some (.od [] []),none]=.ok .nx [some (.sh (Al cs A f)),some (.sh (Al cs A g)),some (.od (A.map kN) (A.map fun k=>tD (oJ f g k))),x']:=by
  rw [BY]
  simp! [hn]
  exact e
 have t1:=OT (K:=K) (cs:=cs) hA.l f g
 have t2:=Pp (K:=K) (cs:=cs) hA h0 (f:=oJ f g) ((hf.J hg).fo.mono hb)
 rw [Q1 (g:=oJ f g) fun k hk=>qs.s k hk] at t2
 have t2:FZ K cs [.dic (A.map kN) (A.map fun k=>tD (oJ f g k))]=.ok (Al cs A (oJ f g)):=t2
 simp! [t1,hf',t2]
theorem Ul{A:List Kn}(hA:As A)(h0:A≠[]){f g:Kn→List Row}{b c w v:Nat}(hf:Mp A f b w)(hg:Mp A g c v)(hb:b + c≤200)(hb1:b≤200)(hc1:c≤200):EY K cs [Al cs A f,Al cs A g]=.ok (Al cs A (oE f g)):=by
 have ed:EY K cs [Al cs A f,Al cs A g]=AB 4 (GG K cs) [Al cs A f,Al cs A g]:=AJ rfl
 rw [ed]
 unfold GG
 have q:=(hf.fo.E hg.fo)
 have qs:=(hf.E hg)
 obtain ⟨x',e⟩:=DZ (u:=Ai 3) (b:=(A8 2 (Aa 3) (Aj (ER K cs) (Ab (FD.e2 (FD.e1 (Aa 0) (DX (AF cs) "_forms")) (Aa 3) Au) (Ab (FD.e2 (FD.e1 (Aa 1) (DX (AF cs) "_forms")) (Aa 3) Au) Ag))) [0,3,1,3])) (mk:=fun P x=>[some (.sh (Al cs A f)),some (.sh (Al cs A g)),some (.od (P.map kN) (P.map fun k=>tD (oE f g k))),x]) hA.nd (fun P k L x eA hk hkA=>by
  refine ⟨[some (.sh (Al cs A f)),some (.sh (Al cs A g)),some (.od (P.map kN) (P.map fun k=>tD (oE f g k))),some (.sh (sD k))],some (.sh (sD k)),rfl,?_⟩
  have hlf:=hf.fo.l k hkA
  have hlg:=hg.fo.l k hkA
  have hmul:=Nat.mul_le_mul hlf hlg
  have t:=Ut (K:=K) (cs:=cs) (hf.fo.g k hkA) (hg.fo.g k hkA) (hf.fl k hkA) (hg.fl k hkA) hA.l (by omega) (hf.fo.n k hkA) (hg.fo.n k hkA)
  have g1:=De (cs:=cs) A f
  have g2:=De (cs:=cs) A g
  have ga:Au (Fe A f) (sD k)=some (tD (f k)):=Kw hkA
  have gb:Au (Fe A g) (sD k)=some (tD (g k)):=Kw hkA
  have hz:∀ lk ρ,AQ (tD (nf (f k ++ g k))) lk ρ=ρ:=fun lk ρ=>CA (EG _)
  have pk:=Gm hk
  have pv:Df (P.map kN) (P.map fun k=>tD (oE f g k)) (Sum.inr (S k)) (tD (nf (f k ++ g k)))=(P ++ [k]).map fun k=>tD (oE f g k):=Hf hk fun k=>tD (oE f g k)
  have hlen:=map_len P kN (K8 eA hA.l)
  unfold sD at ga gb ⊢
  simp! [g1,g2,ga,gb,t,hz,pk,pv,hlen]) A [] none rfl
 have hn:BM (Bk K cs) "names" (Aa 0) Ag [some (.sh (Al cs A f)),some (.sh (Al cs A g)),some (.od [] []),none]=.ok (.tup (A.map sD)):=Fp rfl
 have hf':AW (Ai 3) (AD (BM (Bk K cs) "names" (Aa 0) Ag)) [0] (A8 2 (Aa 3) (Aj (ER K cs) (Ab (FD.e2 (FD.e1 (Aa 0) (DX (AF cs) "_forms")) (Aa 3) Au) (Ab (FD.e2 (FD.e1 (Aa 1) (DX (AF cs) "_forms")) (Aa 3) Au) Ag))) [0,3,1,3]) [some (.sh (Al cs A f)),some (.sh (Al cs A g)),some (.od [] []),none]=.ok .nx [some (.sh (Al cs A f)),some (.sh (Al cs A g)),some (.od (A.map kN) (A.map fun k=>tD (oE f g k))),x']:=by
  rw [BY]
  simp! [hn]
  exact e
 have t1:=OT (K:=K) (cs:=cs) hA.l f g
 have t2:=Pp (K:=K) (cs:=cs) hA h0 (f:=oE f g) ((hf.E hg).fo.mono hb)
 rw [Q1 (g:=oE f g) fun k hk=>qs.s k hk] at t2
 have t2:FZ K cs [.dic (A.map kN) (A.map fun k=>tD (oE f g k))]=.ok (Al cs A (oE f g)):=t2
 simp! [t1,hf',t2]
theorem ke{A:List Kn}(hA:As A)(h0:A≠[]){f g:Kn→List Row}{b c w v:Nat}(hf:Mp A f b w)(hg:Mp A g c v)(hb:b * c ^ w≤200)(hb1:1≤b)(hc1:1≤c)(hc:c≤200):ES K cs [Al cs A f,Al cs A g]=.ok (Al cs A (oP f g)):=by
 have ed:ES K cs [Al cs A f,Al cs A g]=AB 2 (Gy K cs) [Al cs A f,Al cs A g]:=AJ rfl
 rw [ed]
 unfold Gy
 have t1:=OT (K:=K) (cs:=cs) hA.l f g
 have t2:=VS (K:=K) (cs:=cs) hA hf.fo hf.w hg.fo hc1 hb hb1 (by omega)
 have t3:FZ K cs [Fe A fun k=>BH (f k) g []]=.ok (Al cs A (oP f g)):=Pp (K:=K) (cs:=cs) hA h0 ((Fo.Pl hf hg hc1).mono hb)
 have g1:=De (cs:=cs) A f
 have g2:=De (cs:=cs) A g
 simp! [t1,g1,g2,t2,t3]
theorem Tn(L:List Row){r:Row}(h:(ks r).Nodup):Bp K cs [tD L,fD r]=.ok (.bl (L.any fun o=>Bj o r)):=by
 have ed:Bp K cs [tD L,fD r]=AB 4 (Fw K cs) [tD L,fD r]:=AJ rfl
 rw [ed]
 unfold Fw
 obtain ⟨x',e⟩:=Qz (K:=K) (cs:=cs) (r:=r) (d0:=some (.sh (tD L))) (d1:=some (.sh (fD r))) L none
 have hf:AW (Ai 3) (AD (Aa 0)) [0] (BR (FD.t1 (Aj (FU K cs) (Ab (Aa 3) (Ab (Aa 2) Ag))) AR) (AE (eC (.bl true)) []) Ar) [some (.sh (tD L)),some (.sh (fD r)),some (.sh (rD r)),none]=Bm (Ai 3) (BR (FD.t1 (Aj (FU K cs) (Ab (Aa 3) (Ab (Aa 2) Ag))) AR) (AE (eC (.bl true)) []) Ar) (L.map fD) [some (.sh (tD L)),some (.sh (fD r)),some (.sh (rD r)),none]:=rfl
 rw [e] at hf
 have hd:AQ (rD r) [1] [some (.sh (tD L)),some (.sh (fD r)),none,none]=[some (.sh (tD L)),some (.sh (fD r)),none,none]:=Ek (by rfl)
 cases hb:L.any fun o=>Bj o r with
 | true=>
  rw [hb,if_pos rfl] at hf
  simp! [KU h,hd,hf]
 | false=>
  rw [hb,if_neg (by decide)] at hf
  simp! [KU h,hd,hf]
def GX(R Q:List Row):Bool:=Q.all fun s=>R.any fun o=>Bj o s
theorem UT{R Q:List Row}(n:∀ s∈Q,(ks s).Nodup):GX R Q=true ↔ Nr R Q:=by
 unfold GX Nr
 rw [List.all_eq_true]
 constructor
 ·intro h s hs
  obtain ⟨r,hr,b⟩:=List.any_eq_true.mp (h s hs)
  exact ⟨r,hr,(Fh (n s hs)).mp b⟩
 ·intro h s hs
  obtain ⟨r,hr,b⟩:=h s hs
  exact List.any_eq_true.mpr ⟨r,hr,(Fh (n s hs)).mpr b⟩
theorem VE{A:List Kn}{f g:Kn→List Row}{k:Kn}(hk:k∈A):∀ (L:List Row) (x:Option Lo),(∀ s∈L,(ks s).Nodup)→∃ x',Bm (Ai 3) (BR (AM (FD.t1 (Aj (Bp K cs) (Ab (FD.e2 (FD.e1 (Aa 0) (DX (AF cs) "_forms")) (Aa 2) Au) (Ab (Aa 3) Ag))) AR)) (AE (eC (.bl false)) []) Ar) (L.map fD) [some (.sh (Al cs A f)),some (.sh (Al cs A g)),some (.sh (.str (S k))),x]=if GX (f k) L=true then .ok .nx [some (.sh (Al cs A f)),some (.sh (Al cs A g)),some (.sh (.str (S k))),x'] else .ok (.rt (.bl false)) [some (.sh (Al cs A f)),some (.sh (Al cs A g)),some (.sh (.str (S k))),x']
 | [],x,_=>⟨x,rfl⟩
 | s :: L,x,h=>by
  obtain ⟨x',e⟩:=VE (f:=f) (g:=g) hk L (some (.sh (fD s))) fun q hq=>h q (List.mem_cons_of_mem _ hq)
  have t:=Tn (K:=K) (cs:=cs) (f k) (h s List.mem_cons_self)
  have g1:=De (cs:=cs) A f
  have ga:Au (Fe A f) (.str (S k))=some (tD (f k)):=Kw hk
  have eb:GX (f k) (s :: L)=(((f k).any fun o=>Bj o s) && GX (f k) L):=rfl
  rw [List.map_cons,BX,eb]
  cases hb:(f k).any fun o=>Bj o s with
  | false=>
   rw [hb] at t
   refine ⟨some (.sh (fD s)),?_⟩
   simp! [g1,ga,t]
  | true=>
   rw [hb] at t
   refine ⟨x',?_⟩
   simp! [g1,ga,t,e]
theorem Sy{A:List Kn}{f g:Kn→List Row}(hg:∀ k∈A,∀ s∈g k,(ks s).Nodup):∀ (L:List Kn) (x y:Option Lo),(∀ k∈L,k∈A)→∃ x' y',Bm (Ai 2) (AW (Ai 3) (AD (FD.e2 (FD.e1 (Aa 1) (DX (AF cs) "_forms")) (Aa 2) Au)) [1,2]
  (BR (AM (FD.t1 (Aj (Bp K cs) (Ab (FD.e2 (FD.e1 (Aa 0) (DX (AF cs) "_forms")) (Aa 2) Au) (Ab (Aa 3) Ag))) AR)) (AE (eC (.bl false)) []) Ar)) (L.map sD) [some (.sh (Al cs A f)),some (.sh (Al cs A g)),x,y]=if (L.all fun k=>GX (f k) (g k))=true then .ok .nx [some (.sh (Al cs A f)),some (.sh (Al cs A g)),x',y'] else .ok (.rt (.bl false)) [some (.sh (Al cs A f)),some (.sh (Al cs A g)),x',y']
 | [],x,y,_=>⟨x,y,rfl⟩
 | k :: L,x,y,h=>by
  have hk:=h k List.mem_cons_self
  obtain ⟨y1,e1⟩:=VE (K:=K) (cs:=cs) (f:=f) (g:=g) hk (g k) y (hg k hk)
  obtain ⟨x',y',e⟩:=Sy (f:=f) hg L (some (.sh (sD k))) y1 fun q hq=>h q (List.mem_cons_of_mem _ hq)
  have g2:=De (cs:=cs) A g
  have gb:Au (Fe A g) (.str (S k))=some (tD (g k)):=Kw hk
  have hf:AW (Ai 3) (AD (FD.e2 (FD.e1 (Aa 1) (DX (AF cs) "_forms")) (Aa 2) Au)) [1,2] (BR (AM (FD.t1 (Aj (Bp K cs) (Ab (FD.e2 (FD.e1 (Aa 0) (DX (AF cs) "_forms")) (Aa 2) Au) (Ab (Aa 3) Ag))) AR)) (AE (eC (.bl false)) []) Ar) [some (.sh (Al cs A f)),some (.sh (Al cs A g)),some (.sh (.str (S k))),y]=Bm (Ai 3) (BR (AM (FD.t1 (Aj (Bp K cs) (Ab (FD.e2 (FD.e1 (Aa 0) (DX (AF cs) "_forms")) (Aa 2) Au) (Ab (Aa 3) Ag))) AR)) (AE (eC (.bl false)) []) Ar) ((g k).map fD) [some (.sh (Al cs A f)),some (.sh (Al cs A g)),some (.sh (.str (S k))),y]:=by
   rw [BY,CB]
   simp! [g2,gb]
   rfl
  rw [e1] at hf
  rw [List.map_cons,BX,List.all_cons]
  unfold sD at e ⊢
  cases hb:GX (f k) (g k) with
  | false=>
   rw [hb,if_neg (by decide)] at hf
   refine ⟨some (.sh (.str (S k))),y1,?_⟩
   simp! [hf]
  | true=>
   rw [hb,if_pos rfl] at hf
   refine ⟨x',y',?_⟩
   simp! [hf,e]
theorem dW{A:List Kn}{f g:Kn→List Row}(hA:A.length≤20)(hg:∀ k∈A,∀ s∈g k,(ks s).Nodup):DS K cs [Al cs A f,Al cs A g]=.ok (.bl (A.all fun k=>GX (f k) (g k))):=by
 have ed:DS K cs [Al cs A f,Al cs A g]=AB 4 (FI K cs) [Al cs A f,Al cs A g]:=AJ rfl
 rw [ed]
 unfold FI
 obtain ⟨x',y',e⟩:=Sy (K:=K) (cs:=cs) (f:=f) hg A none none fun _ h=>h
 have t1:=OT (K:=K) (cs:=cs) hA f g
 have hn:BM (Bk K cs) "names" (Aa 0) Ag [some (.sh (Al cs A f)),some (.sh (Al cs A g)),none,none]=.ok (.tup (A.map sD)):=Fp rfl
 have hf:AW (Ai 2) (AD (BM (Bk K cs) "names" (Aa 0) Ag)) [0] (AW (Ai 3) (AD (FD.e2 (FD.e1 (Aa 1) (DX (AF cs) "_forms")) (Aa 2) Au)) [1,2]
  (BR (AM (FD.t1 (Aj (Bp K cs) (Ab (FD.e2 (FD.e1 (Aa 0) (DX (AF cs) "_forms")) (Aa 2) Au) (Ab (Aa 3) Ag))) AR)) (AE (eC (.bl false)) []) Ar)) [some (.sh (Al cs A f)),some (.sh (Al cs A g)),none,none]=Bm (Ai 2) (AW (Ai 3) (AD (FD.e2 (FD.e1 (Aa 1) (DX (AF cs) "_forms")) (Aa 2) Au)) [1,2]
  (BR (AM (FD.t1 (Aj (Bp K cs) (Ab (FD.e2 (FD.e1 (Aa 0) (DX (AF cs) "_forms")) (Aa 2) Au) (Ab (Aa 3) Ag))) AR)) (AE (eC (.bl false)) []) Ar)) (A.map sD) [some (.sh (Al cs A f)),some (.sh (Al cs A g)),none,none]:=by
  rw [BY]
  simp! [hn]
 rw [e] at hf
 cases hb:A.all fun k=>GX (f k) (g k) with
 | false=>
  rw [hb,if_neg (by decide)] at hf
  simp! [t1,hf]
 | true=>
  rw [hb,if_pos rfl] at hf
  simp! [t1,hf]
theorem f5(R:List Row):(tD R).py=some (.tuple (R.map rP)):=by
 unfold tD Dt.py
 rw [EC R fun r _=>QF r]
 rfl
theorem ir(A:List Kn)(h:Kn→PyData){k:Kn}(hk:k∈A):Rx (A.map kN) (A.map h) (kN k)=some (h k):=by
 induction A with
 | nil=>cases hk
 | cons a A ih=>
  rw [List.map_cons,List.map_cons]
  unfold Rx
  by_cases e:a=k
  ·rw [if_pos (by rw [e]),e]
  ·rw [if_neg fun z=>e (HJ z)]
   rcases List.mem_cons.mp hk with z | z
   ·exact absurd z.symm e
   ·exact ih z
def eqB(A:List Kn)(f g:Kn→List Row):Bool:=A.all fun k=>decide (f k=g k)
theorem ay(A:List Kn)(f g:Kn→List Row):∀ L:List Kn,(∀ k∈L,k∈A)→U2 (L.map kN) (L.map fun k=>.tuple ((f k).map rP)) (A.map kN) (A.map fun k=>.tuple ((g k).map rP))=L.all fun k=>decide (f k=g k)
 | [],_=>rfl
 | k :: L,h=>by
  have ih:=ay A f g L fun q hq=>h q (List.mem_cons_of_mem _ hq)
  unfold U2 at ih ⊢
  rw [List.map_cons,List.map_cons,List.zip_cons_cons,List.all_cons,ih,List.all_cons]
  simp only
  rw [ir A (fun k=>PyData.tuple ((g k).map rP)) (h k List.mem_cons_self)]
  simp only
  rw [PyData.eqv,La SG]
theorem jr{A:List Kn}{f g:Kn→List Row}(hf:∀ k∈A,∀ r∈f k,Yd r)(hg:∀ k∈A,∀ r∈g k,Yd r):Si false (Fe A f) (Fe A g)=some (eqB A f g):=by
 unfold Si Fe
 simp only
 rw [EC (f:=fun k=>tD (f k)) (g:=fun k=>.tuple ((f k).map rP)) A fun k _=>f5 (f k),EC (f:=fun k=>tD (g k)) (g:=fun k=>.tuple ((g k).map rP)) A fun k _=>f5 (g k)]
 simp only [Option.bind_some]
 rw [if_pos ⟨List.all_eq_true.mpr fun x hx=>by
  obtain ⟨k,hk,rfl⟩:=List.mem_map.mp hx
  exact Oo (hf k hk),List.all_eq_true.mpr fun x hx=>by
  obtain ⟨k,hk,rfl⟩:=List.mem_map.mp hx
  exact Oo (hg k hk)⟩,ay A f g A fun _ h=>h]
 simp only [List.length_map,beq_self_eq_true,Bool.true_and,Bool.false_xor]
 rfl
theorem cm{A:List Kn}{f g:Kn→List Row}(hf:∀ k∈A,∀ r∈f k,Yd r)(hg:∀ k∈A,∀ r∈g k,Yd r):D1 K cs [Al cs A f,Al cs A g]=.ok (.bl (eqB A f g)):=by
 have ed:D1 K cs [Al cs A f,Al cs A g]=AB 2 (Hx K cs) [Al cs A f,Al cs A g]:=AJ rfl
 rw [ed]
 unfold Hx
 have g1:=De (cs:=cs) A f
 have g2:=De (cs:=cs) A g
 have gi:Ux cs.c_Map (WG cs) [Al cs A g,.cls cs.c_Map]=some (.bl true):=by
  unfold Al Ux
  simp
 simp! [gi,g1,g2,jr hf hg]
theorem keys_map(r:Row):(ks r).map sD=r.map fun p=>sD p.1:=by
 unfold ks
 rw [List.map_map]
 rfl
theorem PL{i:Nat}{u:Dt→FD.Env→Option FD.Env}{vs:List Nat}{f:FD.Env→Out Dt}{ρ:FD.Env}{r:Row}{g:Kn × Int→Dt}(hi:ρ[i]? = some (some (.sh (rD r))))(hl:r.length≤16777216)(h:∀ p∈r,∃ ρ1,u (sD p.1) (BJ (frz [i] ρ) vs)=some ρ1∧f ρ1=.ok (g p)):
  JC i u vs AI f ρ=.ok (r.map g):=by
 have e:CO i ρ=.ok (r.map fun p=>sD p.1):=by
  unfold CO
  rw [hi]
  show Out.ok ((Cc r).map IW)=_
  rw [Jj,keys_map]
 unfold JC
 rw [CM (e:=fun p:Kn × Int=>sD p.1) (g:=g) e hl h]
theorem JZ{α:Type}(f:α→Int){l:List α}(h:l≠[]):Gb [.lst (l.map fun a=>.int (f a))]=some (.int (Fy (l.map f))):=by
 have e:(l.map fun a=>Dt.int (f a))=(l.map f).map .int:=by rw [List.map_map]; rfl
 unfold Gb
 show ((some (l.map fun a=>Dt.int (f a))).bind fun ds=>(JG ds).bind fun ns=>if ns=[] then none else some (Dt.int (Fy ns)))=_
 rw [Option.bind_some,e,I8,Option.bind_some,if_neg (by simpa using h)]
theorem VD{α:Type}(f:α→Int){l:List α}(h:l≠[]):Lw [.lst (l.map fun a=>.int (f a))]=some (.int (QG (l.map f))):=by
 have e:(l.map fun a=>Dt.int (f a))=(l.map f).map .int:=by rw [List.map_map]; rfl
 unfold Lw
 show ((some (l.map fun a=>Dt.int (f a))).bind fun ds=>(JG ds).bind fun ns=>if ns=[] then none else some (Dt.int (QG ns)))=_
 rw [Option.bind_some,e,I8,Option.bind_some,if_neg (by simpa using h)]
theorem Ws{R:List Row}{P:Row}{f:Kn→Int}(h:R≠[])(hn:∀ r∈R,r≠[])(hl:R.length≤1000)(hr:∀ r∈R,r.length≤1000)(hp:∀ r∈R,∀ k∈ks r,gt P k=some (f k)):Gq K cs [tD R,rD P]=.ok (.int (vl R f)):=by
 have ed:Gq K cs [tD R,rD P]=AB 5 (Ju K cs) [tD R,rD P]:=AJ rfl
 rw [ed]
 unfold Ju
 have hc:EA (Ai 2) [2] AI (eB Gb (Ab (eL (EA (FC (AY (Ai 3) (AY (Ai 4) Fc))) [3,4] AI (FD.e2 (FD.e2 (Aa 1) (Aa 3) Au) (Aa 4) AV) (AD (Aa 2)) [2])) Ag)) (AD (Aa 0)) [0] [some (.sh (tD R)),some (.sh (rD P)),none,none,none]=.ok (R.map fun r=>.int (mx r f)):=by
  refine CM (e:=fD) rfl (by omega) fun r hr'=>⟨[some (.sh (tD R)),some (.sh (rD P)),some (.sh (fD r)),none,none],rfl,?_⟩
  have hi:EA (FC (AY (Ai 3) (AY (Ai 4) Fc))) [3,4] AI (FD.e2 (FD.e2 (Aa 1) (Aa 3) Au) (Aa 4) AV) (AD (Aa 2)) [2] [some (.sh (tD R)),some (.sh (rD P)),some (.sh (fD r)),none,none]=.ok (r.map fun p=>.int (f p.1 + p.2)):=by
   refine CM (e:=Jb) rfl (by have:=hr r hr'; omega) fun p hp'=>⟨[some (.sh (tD R)),some (.sh (rD P)),some (.sh (fD r)),some (.sh (.str (S p.1))),some (.sh (.int p.2))],rfl,?_⟩
   have g2:Au (rD P) (.str (S p.1))=some (.int (f p.1)):=by
    rw [T4,hp r hr' p.1 (Eu hp')]
    rfl
   simp! [g2]
  simp! [hi,JZ (fun p:Kn × Int=>f p.1 + p.2) (hn r hr')]
  rfl
 simp! [hc,VD (fun r:Row=>mx r f) h]
 rfl
theorem gy{u:Dt→FD.Env→Option FD.Env}{fk fv:FD.Env→Out Dt}{ρ:FD.Env}{A:List Kn}{h:Kn→Dt}(nd:A.Nodup)(st:∀ k∈A,∃ ρ1,u (sD k) ρ=some ρ1∧fk ρ1=.ok (sD k)∧fv ρ1=.ok (h k)):∀ (L P:List Kn),A=P ++ L→YW u AI fk fv ρ (L.map sD) (P.map kN) (P.map h)=.ok (A.map kN,A.map h)
 | [],P,e=>by rw [e,List.append_nil]; rfl
 | k :: L,P,e=>by
  have hk:k∉P:=fun z=>by
   rw [e] at nd
   exact (List.nodup_append.mp nd).2.2 k z k List.mem_cons_self rfl
  obtain ⟨ρ1,h1,h2,h3⟩:=st k (by rw [e]; exact List.mem_append_right _ List.mem_cons_self)
  have hi:=gy (fk:=fk) (fv:=fv) nd st L (P ++ [k]) (by rw [List.append_assoc]; exact e)
  rw [List.map_cons]
  unfold YW
  rw [h1]
  simp only [B3,Out.AA,O0,Cf,if_true,h2,h3]
  have hkd:keyD (sD k)=some (Sum.inr (S k)):=rfl
  rw [hkd,B3,Out.AA,Gm hk,Hf hk h,hi]
def DJ(A:List Kn)(f:Kn→List Row)(pt:Kn→Int):Row:=A.map fun k=>(k,vl (f k) pt)
theorem bE(A:List Kn)(f:Kn→List Row)(pt:Kn→Int):rD (DJ A f pt)=.dic (A.map kN) (A.map fun k=>.int (vl (f k) pt)):=by
 unfold rD Cc D7 DJ
 rw [List.map_map,List.map_map]
 rfl
theorem Xy{A:List Kn}{P:Row}{d0:Option Lo}(hP:∀ k∈A,k∈ks P):∀ (L:List Kn) (x:Option Lo),(∀ k∈L,k∈A)→∃ x',Bm (Ai 2) (BR (FD.t2 (Aa 2) (Aa 1) (Dq DN)) Kg Ar) (L.map sD) [d0,some (.sh (rD P)),x]=.ok .nx [d0,some (.sh (rD P)),x']
 | [],x,_=>⟨x,rfl⟩
 | k :: L,x,h=>by
  obtain ⟨x',e⟩:=Xy (d0:=d0) hP L (some (.sh (sD k))) fun q hq=>h q (List.mem_cons_of_mem _ hq)
  have gi:DN (sD k) (rD P)=some true:=by
   have:=kU P k
   rw [decide_eq_true (hP k (h k List.mem_cons_self))] at this
   exact this
  rw [List.map_cons,BX]
  refine ⟨x',?_⟩
  simp! [gi,e]
theorem V6{A:List Kn}(hA:As A){f:Kn→List Row}{b w:Nat}(hf:Mp A f b w)(hb:b≤200){P:Row}{pt:Kn→Int}(hP:∀ k∈A,gt P k=some (pt k)):Dj K cs [Al cs A f,rD P]=.ok (rD (DJ A f pt)):=by
 have ed:Dj K cs [Al cs A f,rD P]=AB 3 (FV K cs) [Al cs A f,rD P]:=AJ rfl
 rw [ed]
 unfold FV
 have hn:∀ x,BM (Bk K cs) "names" (Aa 0) Ag [some (.sh (Al cs A f)),some (.sh (rD P)),x]=.ok (.tup (A.map sD)):=fun x=>Fp rfl
 obtain ⟨x',e⟩:=Xy (A:=A) (P:=P) (d0:=some (.sh (Al cs A f))) (fun k hk=>Eu (Hb (hP k hk))) A none fun _ h=>h
 have hf1:AW (Ai 2) (AD (BM (Bk K cs) "names" (Aa 0) Ag)) [0] (BR (FD.t2 (Aa 2) (Aa 1) (Dq DN)) Kg Ar) [some (.sh (Al cs A f)),some (.sh (rD P)),none]=.ok .nx [some (.sh (Al cs A f)),some (.sh (rD P)),x']:=by
  rw [BY]
  simp! [hn]
  exact e
 have hd:(jK (Ai 2) [2] AI (Aa 2) (Aj (Gq K cs) (Ab (FD.e2 (FD.e1 (Aa 0) (DX (AF cs) "_forms")) (Aa 2) Au) (Ab (Aa 1) Ag))) (AD (BM (Bk K cs) "names" (Aa 0) Ag)) [0]) [some (.sh (Al cs A f)),some (.sh (rD P)),x']=.ok (rD (DJ A f pt)):=by
  rw [NI,CB,hn,Out.AA]
  show (Out.ok (A.map sD)).bind _=_
  rw [Out.AA,if_pos (by rw [List.length_map]; have:=hA.l; omega)]
  show (YW _ _ _ _ [some (.sh (Al cs A f)),some (.sh (rD P)),none] (A.map sD) (([]:List Kn).map kN) (([]:List Kn).map fun k=>.int (vl (f k) pt))).bind _=_
  rw [gy (h:=fun k=>.int (vl (f k) pt)) hA.nd (fun k hk=>⟨[some (.sh (Al cs A f)),some (.sh (rD P)),some (.sh (sD k))],rfl,rfl,?_⟩) A [] rfl,Out.AA,bE]
  have g1:=De (cs:=cs) A f
  have ga:Au (Fe A f) (sD k)=some (tD (f k)):=Kw hk
  have t:=Ws (K:=K) (cs:=cs) (P:=P) (f:=pt) (hf.fo.e k hk) (hf.fo.n k hk) (by have:=hf.fo.l k hk; omega) (fun r hr=>by have:=(hf.fo.g k hk r hr).len; have:=hA.l; omega) fun r hr j hj=>hP j ((hf.fo.g k hk r hr).sub j hj)
  simp! [g1,ga,t]
 have hz:∀ ρ:FD.Env,[0,0,2,1,2].all (G0 ρ)=true→AQ (rD (DJ A f pt)) [0,0,2,1,2] ρ=ρ:=fun ρ h=>Ek h
 have hr:(AE (jK (Ai 2) [2] AI (Aa 2) (Aj (Gq K cs) (Ab (FD.e2 (FD.e1 (Aa 0) (DX (AF cs) "_forms")) (Aa 2) Au) (Ab (Aa 1) Ag))) (AD (BM (Bk K cs) "names" (Aa 0) Ag)) [0]) [0,0,2,1,2]) [some (.sh (Al cs A f)),some (.sh (rD P)),x']=.ok (.rt (rD (DJ A f pt))) (AQ (rD (DJ A f pt)) [0,0,2,1,2] [some (.sh (Al cs A f)),some (.sh (rD P)),x']):=by
  rw [Lg,hd]
  rfl
 rw [Lh]
 show ZX (Ao _ _ [some (.sh (Al cs A f)),some (.sh (rD P)),none])=_
 rw [Ld,hf1,Gx,hr]
 rfl
theorem lh(A:List Kn)(f:Kn→List Row):Eg K cs [Al cs A f]=.ok (.int (A.length:Nat)):=by
 have ed:Eg K cs [Al cs A f]=AB 1 (GF K cs) [Al cs A f]:=AJ rfl
 rw [ed]
 unfold GF
 have g1:=De (cs:=cs) A f
 have g2:Iv [Fe A f]=some (.int (A.length:Nat)):=U0
 simp! [g1,g2]
theorem hT{A:List Kn}(f:Kn→List Row){k:Kn}(hk:k∈A):Gi K cs [Al cs A f,.str (S k)]=.ok (tD (f k)):=by
 have ed:Gi K cs [Al cs A f,.str (S k)]=AB 2 (JA K cs) [Al cs A f,.str (S k)]:=AJ rfl
 rw [ed]
 unfold JA
 have g1:=De (cs:=cs) A f
 have g2:DN (.str (S k)) (Fe A f)=some true:=by
  have:=iy A k (A.map fun k=>tD (f k))
  rw [decide_eq_true hk] at this
  exact this
 have ga:Au (Fe A f) (.str (S k))=some (tD (f k)):=Kw hk
 have hz:∀ lk ρ,AQ (tD (f k)) lk ρ=ρ:=fun lk ρ=>CA (EG _)
 simp! [g1,g2,ga,hz,K0]
def DA(s:Int × Int):Dt:=.tup [.int s.1,.int s.2]
def spL:List (Int × Int):=[(3,0),(2,0),(7,0 - 3),(7,0 - 3),(20,0 - 10),(2000001,0 - 1000000),(4,10 ^ 20),(4,0 - 10 ^ 20)]
def Rb(s:Int × Int):Prop:=1≤s.1∧s.1≤2000001
theorem jx:∀ s∈spL,Rb s:=by unfold Rb; decide
theorem Z0{R:List Cell}{j:Nat}{b:Bx}(hb:R[j]? = some (JF b))(hn:b.n≤900000000):
  ∃ (s:Int × Int) (R':List Cell) (b':Bx),E3 K cs [.ad j] R=.ok (DA s) R'∧Rb s∧At R R' j b b' 1:=by
 have ed:E3 K cs [.ad j] R=runM 2 (GC K cs) [.ad j] R:=GA rfl
 rw [ed]
 unfold GC
 obtain ⟨v,R1,b1,t1,v0,v1,s1⟩:=Jq (K:=K) (cs:=cs) hb (by omega) (s:=8) (by decide) (by decide)
 obtain ⟨s,hs,hm⟩:=P0 (xs:=spL) (i:=v) v0 v1
 have p20:gI Zk (fun i j=>i ^ j.toNat) (.int 10) (.int 20)=some (.int (10 ^ 20)):=by
  rw [ID,if_pos (by decide)]
  rfl
 have hat:atI (spL.map DA) v=some (DA s):=by rw [O2,hs]; rfl
 have hat:atI [.tup [.int 3,.int 0],.tup [.int 2,.int 0],.tup [.int 7,.int (0 - 3)],.tup [.int 7,.int (0 - 3)],.tup [.int 20,.int (0 - 10)],.tup [.int 2000001,.int (0 - 1000000)],.tup [.int 4,.int (10 ^ 20)],.tup [.int 4,.int (0 - 10 ^ 20)]] v=some (DA s):=hat
 refine ⟨s,R1,b1,?_,jx s (List.mem_of_getElem? hm),s1⟩
 simp! [p20,Nd,t1,hat]
theorem aU{α:Type}(f:α→Dt)(xs:List α)(lo hi:Option Int):∃ ys:List α,cutD (xs.map f) lo hi=ys.map f∧(∀ y∈ys,y∈xs)∧ys.length≤xs.length:=by
 unfold cutD
 refine ⟨(xs.drop (HT.sIx xs.length 0 lo)).take (HT.sIx xs.length xs.length hi - HT.sIx xs.length 0 lo),?_,fun y hy=>List.mem_of_mem_drop (List.mem_of_mem_take hy),?_⟩
 ·rw [List.length_map,List.map_take,List.map_drop]
 ·rw [List.length_take,List.length_drop]; omega
def rC(r:Row):Cell:=.dic (Cc r) (D7 r)
theorem Sj{n k:Nat}{fx fk:FD.Env→Out Dt}{f:FD.Env→XO Dt}{ρ ρ1:FD.Env}{C:List Cell}{r:Row}{z:Kn}{x:Int}(hf:f ρ=.ok (.int x) ρ1)(hx:fx ρ1=.ok (.ad k))(hm:Ed n ρ1=some C)(hc:C[k]? = some (rC r))(hk:fk ρ1=.ok (.str (S z)))(hl:r.length < 16777216):
  HF n fx fk f [] ρ=.ok .nx (ρ1.set n (some (.mh (C.set k (rC (Dl r z x)))))):=by
 have e:AQ (.int x) [] ρ1=ρ1:=Ee ..
 have hp:Us n (.ad k) (kN z) (.int x) ρ1=some (ρ1.set n (some (.mh (C.set k (rC (Dl r z x)))))):=by
  unfold Us
  simp only [hm,Option.bind_some,hc]
  show (if (Cc r).length < 16777216 then some (ρ1.set n (some (Lo.mh (C.set k (.dic (E2 (Cc r) (kN z)) (Df (Cc r) (D7 r) (kN z) (.int x))))))) else none)=_
  rw [Iy,if_pos hl,NT r z x,NY]
  rfl
 unfold HF
 rw [hf,Og,e,hx,Fb,hk,Fb]
 show (match Us n (.ad k) (kN z) (.int x) ρ1 with
  | some ρ'=>SOut.ok .nx ρ'
  | none=>.bad)=_
 rw [hp]
structure Rw2 (C:List Cell) (j m:Nat) (b:Bx) (r:Row):Prop where
 bx:C[j]? = some (JF b)
 rw:C[m]? = some (rC r)
 ne:m≠j
theorem Rw2.tk{C C':List Cell}{j m k:Nat}{b b':Bx}{r:Row}(h:Rw2 C j m b r)(a:At C C' j b b' k):Rw2 C' j m b' r:=⟨a.NR,by rw [a.ne h.ne]; exact h.rw,h.ne⟩
theorem Rw2.put{C:List Cell}{j m:Nat}{b:Bx}{r:Row}(h:Rw2 C j m b r)(r':Row):Rw2 (C.set m (rC r')) j m b r':=⟨by rw [List.getElem?_set_ne h.ne]; exact h.bx,List.getElem?_set_self (JR h.rw),h.ne⟩
abbrev QR(j m:Nat)(d1:Option Lo)(s:Int × Int)(d3 x:Option Lo)(C:List Cell):FD.Env:=[some (.sh (.ad j)),d1,some (.sh (DA s)),d3,some (.sh (.ad m)),x,some (.mh C)]
theorem Qc{j m:Nat}{N:List Kn}{s:Int × Int}(hs:Rb s)(hN:N.length≤20){d1 d3:Option Lo}:∀ (L:List Kn) (r:Row) (x:Option Lo) (C:List Cell) (b:Bx),(∀ k∈L,k∈N)→Gr N r→Rw2 C j m b r→b.n + 2 * L.length≤900000000 →
  ∃ (r':Row) (x':Option Lo) (C':List Cell) (b':Bx),Rw2 C' j m b' r'∧b'.n≤b.n + 2 * L.length∧Gr N r' ∧
  Bm (Ai 5) (OH (FD.WU (Az 6 (Ap K cs) (xP (Ab (Aa 0) (Ab (eC (.int 2)) Ag))) [0]) (xP (eC (.int 0))) Lz) (HF 6 (Aa 4) (Aa 5) (FD.x2 (Az 6 (Ap K cs) (xP (Ab (Aa 0) (Ab (FD.e2 (Aa 2) (eC (.int 0)) Bl) Ag))) [0]) (xP (FD.e2 (Aa 2) (eC (.int 1)) Bl)) AV) []) Ar) (L.map sD) (QR j m d1 s d3 x C)=.ok .nx (QR j m d1 s d3 x' C')
 | [],r,x,C,b,_,g,hb,_=>⟨r,x,C,b,hb,Nat.le_refl _,g,rfl⟩
 | k :: L,r,x,C,b,hL,g,hb,hn=>by
  simp only [List.length_cons] at hn
  obtain ⟨v,R1,b1,t1,v0,v1,s1⟩:=Jq (K:=K) (cs:=cs) hb.bx (by omega) (s:=2) (by decide) (by decide)
  have u1:=s1.up
  have h1:=hb.tk s1
  have hL':∀ k∈L,k∈N:=fun z hz=>hL z (List.mem_cons_of_mem _ hz)
  by_cases hv:v=0
  ·subst hv
   obtain ⟨w,R2,b2,t2,w0,w1,s2⟩:=Jq (K:=K) (cs:=cs) h1.bx (by omega) (s:=s.1) hs.1 (by have:=hs.2; omega)
   have u2:=s2.up
   have h2:=(h1.tk s2).put (Dl r k (w + s.2))
   obtain ⟨r',x',C',b',s3,ub,g',e⟩:=Qc hs hN (d1:=d1) (d3:=d3) L (Dl r k (w + s.2)) (some (.sh (sD k))) _ b2 hL' (g.put (hL k List.mem_cons_self) _) h2 (by omega)
   refine ⟨r',x',C',b',s3,by rw [List.length_cons]; omega,g',?_⟩
   have hf:(FD.x2 (Az 6 (Ap K cs) (xP (Ab (Aa 0) (Ab (FD.e2 (Aa 2) (eC (.int 0)) Bl) Ag))) [0]) (xP (FD.e2 (Aa 2) (eC (.int 1)) Bl)) AV) (QR j m d1 s d3 (some (.sh (sD k))) R1)=.ok (.int (w + s.2)) (QR j m d1 s d3 (some (.sh (sD k))) R2):=by
    unfold QR DA
    simp! [t2]
   have hp:(HF 6 (Aa 4) (Aa 5) (FD.x2 (Az 6 (Ap K cs) (xP (Ab (Aa 0) (Ab (FD.e2 (Aa 2) (eC (.int 0)) Bl) Ag))) [0]) (xP (FD.e2 (Aa 2) (eC (.int 1)) Bl)) AV) []) (QR j m d1 s d3 (some (.sh (sD k))) R1)=.ok .nx (QR j m d1 s d3 (some (.sh (sD k))) (R2.set m (rC (Dl r k (w + s.2))))):=Sj (k:=m) (z:=k) hf rfl rfl (h1.tk s2).rw rfl (by have:=g.len; omega)
   unfold QR at hp e
   rw [List.map_cons,BX]
   unfold QR
   simp! [t1,beq_self_eq_true,hp,e]
  ·have hv':(v == (0:Int))=false:=beq_eq_false_iff_ne.mpr hv
   obtain ⟨r',x',C',b',s3,ub,g',e⟩:=Qc hs hN (d1:=d1) (d3:=d3) L r (some (.sh (sD k))) R1 b1 hL' g h1 (by omega)
   refine ⟨r',x',C',b',s3,by rw [List.length_cons]; omega,g',?_⟩
   unfold QR at e
   rw [List.map_cons,BX]
   unfold QR
   simp! [t1,hv',e]
theorem lj{C:List Cell}{j:Nat}{b:Bx}{N:List Kn}{s:Int × Int}(hb:C[j]? = some (JF b))(hn:b.n≤800000000)(hs:Rb s)(hN:N.length≤20)(hN0:N≠[]):
  ∃ (r:Row) (C':List Cell) (b':Bx) (m:Nat),Er K cs [.ad j,.lst (N.map sD),DA s] C=.ok (.ad m) C'∧Rw2 C' j m b' r∧Gr N r∧r≠[]∧b'.n≤b.n + 100:=by
 have ed:Er K cs [.ad j,.lst (N.map sD),DA s] C=runM 6 (Js K cs) [.ad j,.lst (N.map sD),DA s] C:=GA rfl
 rw [ed]
 unfold Js
 have hp:0 < N.length:=List.length_pos_iff.mpr hN0
 have gl:CI [.lst (N.map sD)]=some (.int (N.length:Nat)):=by rw [KL,List.length_map]
 obtain ⟨v,R1,b1,t1,v0,v1,s1⟩:=Jq (K:=K) (cs:=cs) hb (by omega) (s:=(N.length:Nat)) (by omega) (by omega)
 have u1:=s1.up
 obtain ⟨A,hA,mA,lA⟩:=aU sD N (some v) none
 obtain ⟨B,hB,mB,lB⟩:=aU sD N none (some v)
 have hAB:AV (.lst (A.map sD)) (.lst (B.map sD))=some (.lst ((A ++ B).map sD)):=by
  rw [Nd,List.length_map,List.length_map,if_pos (by omega),List.map_append]
 obtain ⟨m,hm⟩:∃ m,m=R1.length:=⟨_,rfl⟩
 have hmj:m≠j:=by have:=JR s1.NR; omega
 have h2:Rw2 (R1 ++ [rC []]) j m b1 []:=⟨by rw [List.getElem?_append_left (JR s1.NR)]; exact s1.NR,by rw [hm]; simp,hmj⟩
 have hnew:Kq 6 [some (.sh (.ad j)),some (.sh (.lst (N.map sD))),some (.sh (DA s)),some (.sh (.int v)),none,none,some (.mh R1)]=.ok (.ad m) [some (.sh (.ad j)),some (.sh (.lst (N.map sD))),some (.sh (DA s)),some (.sh (.int v)),none,none,some (.mh (R1 ++ [rC []]))]:=by
  rw [hm]
  rfl
 obtain ⟨r,x,R2,b2,s2,u2,g,e⟩:=Qc (K:=K) (cs:=cs) hs hN (m:=m) (d1:=some (.sh (.lst (N.map sD)))) (d3:=some (.sh (.int v))) (A ++ B) [] none (R1 ++ [rC []]) b1 (fun k hk=>(List.mem_append.mp hk).elim (mA k) (mB k)) (Gr.nil N) h2 (by rw [List.length_append]; omega)
 rw [List.length_append] at u2
 have hf:AW (Ai 5) (AD (FD.e2 (Nx (Aa 1) (M6 (Aa 3)) Ik) (Nx (Aa 1) Ik (M6 (Aa 3))) AV)) [1,1] (OH (FD.WU (Az 6 (Ap K cs) (xP (Ab (Aa 0) (Ab (eC (.int 2)) Ag))) [0]) (xP (eC (.int 0))) Lz) (HF 6 (Aa 4) (Aa 5) (FD.x2 (Az 6 (Ap K cs) (xP (Ab (Aa 0) (Ab (FD.e2 (Aa 2) (eC (.int 0)) Bl) Ag))) [0]) (xP (FD.e2 (Aa 2) (eC (.int 1)) Bl)) AV) []) Ar) (QR j m (some (.sh (.lst (N.map sD)))) s (some (.sh (.int v))) none (R1 ++ [rC []]))=.ok .nx (QR j m (some (.sh (.lst (N.map sD)))) s (some (.sh (.int v))) x R2):=by
  rw [BY]
  unfold QR at e ⊢
  simp! [hA,hB,hAB]
  exact e
 have hln:QM 6 4 (QR j m (some (.sh (.lst (N.map sD)))) s (some (.sh (.int v))) x R2)=.ok (.int (r.length:Nat)):=by
  show GI ((R2[m]?).bind gN)=_
  rw [s2.rw]
  show Out.ok (Dt.int ((Cc r).length:Nat))=_
  rw [Iy]
 unfold QR at hf hln
 by_cases h0:r=[]
 ·subst h0
  obtain ⟨w,R3,b3,t3,w0,w1,s3⟩:=Jq (K:=K) (cs:=cs) s2.bx (by omega) (s:=s.1) hs.1 (by have:=hs.2; omega)
  have u3:=s3.up
  obtain ⟨z,hz,hix⟩:=ZM (xs:=N) v0 v1
  have hx:(FD.x2 (Az 6 (Ap K cs) (xP (Ab (Aa 0) (Ab (FD.e2 (Aa 2) (eC (.int 0)) Bl) Ag))) [0]) (xP (FD.e2 (Aa 2) (eC (.int 1)) Bl)) AV) (QR j m (some (.sh (.lst (N.map sD)))) s (some (.sh (.int v))) x R2)=.ok (.int (w + s.2)) (QR j m (some (.sh (.lst (N.map sD)))) s (some (.sh (.int v))) x R3):=by
   unfold QR DA
   simp! [t3]
  have hp:(HF 6 (Aa 4) (FD.e2 (Aa 1) (Aa 3) Bl) (FD.x2 (Az 6 (Ap K cs) (xP (Ab (Aa 0) (Ab (FD.e2 (Aa 2) (eC (.int 0)) Bl) Ag))) [0]) (xP (FD.e2 (Aa 2) (eC (.int 1)) Bl)) AV) []) (QR j m (some (.sh (.lst (N.map sD)))) s (some (.sh (.int v))) x R2)=.ok .nx (QR j m (some (.sh (.lst (N.map sD)))) s (some (.sh (.int v))) x (R3.set m (rC (Dl [] z (w + s.2))))):=Sj (k:=m) (z:=z) hx rfl rfl (s2.tk s3).rw (by unfold QR; simp! [hix]) (by decide)
  refine ⟨Dl [] z (w + s.2),_,b3,m,?_,(s2.tk s3).put _,(Gr.nil N).put hz _,iI _ _ _,by omega⟩
  unfold QR at hp
  have hb0:(((([]:Row).length:Nat):Int) == (0:Int))=true:=rfl
  simp! [gl,t1,hnew,hf,hln,hb0,hp]
  rfl
 ·refine ⟨r,R2,b2,m,?_,s2,g,h0,by omega⟩
  have hl:((r.length:Int) == (0:Int))=false:=beq_eq_false_iff_ne.mpr (by have:=List.length_pos_iff.mpr h0; omega)
  simp! [gl,t1,hnew,hf,hln,hl]
def IH(r:Row)(k:Kn):Row:=r.filter fun p=>decide (p.1≠k)
theorem dC(r:Row)(k:Kn):LK (Cc r) (kN k)=Cc (IH r k):=by
 unfold LK Cc IH
 rw [List.filter_map]
 congr 1
 refine List.filter_congr fun p _=>?_
 show decide (kN p.1≠kN k)=decide (p.1≠k)
 exact decide_eq_decide.mpr (not_congr ⟨HJ,fun e=>by rw [e]⟩)
theorem X8:∀ (r:Row) (k:Kn),G7 (Cc r) (D7 r) (kN k)=D7 (IH r k)
 | [],k=>rfl
 | p :: r,k=>by
  have ih:=X8 r k
  show (if kN p.1=kN k then G7 (Cc r) (D7 r) (kN k) else .int p.2 :: G7 (Cc r) (D7 r) (kN k))=_
  by_cases h:p.1=k
  ·rw [if_pos (by rw [h]),ih]
   unfold IH
   rw [List.filter_cons_of_neg (by simp [h])]
  ·rw [if_neg fun z=>h (HJ z),ih]
   unfold IH
   rw [List.filter_cons_of_pos (by simp [h])]
   rfl
theorem Zb{n i m:Nat}{fk:FD.Env→Out Dt}{ρ:FD.Env}{C:List Cell}{r:Row}{k:Kn}(hi:ρ[i]? = some (some (.sh (.ad m))))(hm:Ed n ρ=some C)(hc:C[m]? = some (rC r))(hk:fk ρ=.ok (.str (S k)))(hin:k∈ks r):
  G8 n i fk ρ=.ok .nx (ρ.set n (some (.mh (C.set m (rC (IH r k)))))):=by
 unfold G8
 rw [hi]
 simp only [hm,hc,rC]
 rw [hk,Fb]
 show (if kN k∈Cc r then SOut.ok .nx (ρ.set n (some (.mh (C.set m (.dic (LK (Cc r) (kN k)) (G7 (Cc r) (D7 r) (kN k))))))) else .bad)=_
 rw [if_pos (Ii.mpr hin),dC,X8]
def L7(r:Row)(L:List Kn):Row:=r.filter fun p=>decide (p.1∉L)
theorem bC(r:Row):L7 r []=r:=by
 unfold L7
 exact List.filter_eq_self.mpr fun p _=>by simp
theorem Yh(r:Row)(k:Kn)(L:List Kn):L7 (IH r k) L=L7 r (k :: L):=by
 unfold L7 IH
 rw [List.filter_filter]
 refine List.filter_congr fun p _=>?_
 by_cases h:p.1=k <;> by_cases h':p.1∈L <;> simp [h,h']
abbrev Rc(d0 d1:Option Lo)(N:List Kn)(s:Int × Int)(sh:Int)(d5 d6:Option Lo)(j:Nat)(Rs:List Row)(x9 x10 x11:Option Lo)(C:List Cell):FD.Env:=[d0,d1,some (.sh (.lst (N.map sD))),some (.sh (DA s)),some (.sh (.int sh)),d5,d6,some (.sh (.ad j)),some (.ol (Rs.map rD)),x9,x10,x11,some (.mh C)]
section
variable {d0 d1 d5 d6:Option Lo} {N:List Kn} {s:Int × Int} {sh:Int} {j:Nat} {Rs:List Row} {x9:Option Lo}
theorem Vc{m:Nat}:∀ (L:List Kn) (r:Row) (x:Option Lo) (C:List Cell) (b:Bx),Rw2 C j m b r→L.Nodup→(∀ k∈L,k∈ks r) →
  ∃ (x':Option Lo) (C':List Cell),Rw2 C' j m b (L7 r L)∧Bm (Ai 11) (G8 12 10 (Aa 11)) (L.map sD) (Rc d0 d1 N s sh d5 d6 j Rs x9 (some (.sh (.ad m))) x C)=.ok .nx (Rc d0 d1 N s sh d5 d6 j Rs x9 (some (.sh (.ad m))) x' C')
 | [],r,x,C,b,h,_,_=>⟨x,C,by rw [bC]; exact h,rfl⟩
 | k :: L,r,x,C,b,h,nd,hk=>by
  obtain ⟨n1,n2⟩:=List.nodup_cons.mp nd
  obtain ⟨x',C',h',e⟩:=Vc L (IH r k) (some (.sh (sD k))) (C.set m (rC (IH r k))) b (h.put _) n2 fun z hz=>by
   obtain ⟨p,hp,rfl⟩:=List.mem_map.mp (hk z (List.mem_cons_of_mem _ hz))
   exact List.mem_map.mpr ⟨p,List.mem_filter.mpr ⟨hp,decide_eq_true fun e=>n1 (e ▸ hz)⟩,rfl⟩
  refine ⟨x',C',by rw [← Yh]; exact h',?_⟩
  have hp:=Zb (n:=12) (i:=10) (m:=m) (fk:=Aa 11) (k:=k) (ρ:=Rc d0 d1 N s sh d5 d6 j Rs x9 (some (.sh (.ad m))) (some (.sh (sD k))) C) rfl rfl h.rw rfl (hk k List.mem_cons_self)
  unfold Rc at hp e
  rw [List.map_cons,BX]
  unfold Rc
  simp! [hp,e]
end
structure Gw (N:List Kn) (w:Nat) (R:List Row):Prop where
 g:GL N R
 n:∀ r∈R,r≠[]
 w:∀ r∈R,r.length≤w
theorem Gw.app{N:List Kn}{w:Nat}{R:List Row}{r:Row}(h:Gw N w R)(g:Gr N r)(n:r≠[])(hw:r.length≤w):Gw N w (R ++ [r]):=
 ⟨fun x hx=>(List.mem_append.mp hx).elim (h.g x) fun z=>by rw [List.mem_singleton.mp z]; exact g,fun x hx=>(List.mem_append.mp hx).elim (h.n x) fun z=>by rw [List.mem_singleton.mp z]; exact n,fun x hx=>(List.mem_append.mp hx).elim (h.w x) fun z=>by rw [List.mem_singleton.mp z]; exact hw⟩
theorem lE(l:List Kn)(w:Nat):cutD (l.map sD) (some (w:Int)) none=(l.drop w).map sD:=by
 unfold cutD
 rw [HT.sIx_nat,HT.sIx_none,List.length_map,← List.map_drop,← List.map_take]
 congr 1
 rcases Nat.le_total w l.length with h | h
 ·rw [Nat.min_eq_left h]
  exact List.take_of_length_le (by rw [List.length_drop]; omega)
 ·rw [Nat.min_eq_right h,List.drop_eq_nil_of_le (Nat.le_refl _),List.drop_eq_nil_of_le h,List.take_nil]
theorem jf{N:List Kn}{r:Row}(g:Gr N r)(h:r≠[]){w:Nat}(hw:1≤w):Gr N (L7 r ((ks r).drop w))∧L7 r ((ks r).drop w)≠[]∧(L7 r ((ks r).drop w)).length≤w:=by
 have hsub:∀ k∈ks (L7 r ((ks r).drop w)),k∈(ks r).take w:=fun k hk=>by
  obtain ⟨p,hp,rfl⟩:=List.mem_map.mp hk
  obtain ⟨h1,h2⟩:=List.mem_filter.mp hp
  have h3:p.1∈(ks r).take w ++ (ks r).drop w:=by rw [List.take_append_drop]; exact List.mem_map.mpr ⟨p,h1,rfl⟩
  exact (List.mem_append.mp h3).elim id fun z=>absurd z (of_decide_eq_true h2)
 have hnd:(ks (L7 r ((ks r).drop w))).Nodup:=List.Nodup.sublist (List.Sublist.map _ List.filter_sublist) g.nd
 refine ⟨⟨hnd,fun k hk=>g.sub k (List.mem_of_mem_take (hsub k hk))⟩,?_,?_⟩
 ·cases r with
  | nil=>exact absurd rfl h
  | cons p r=>
   refine List.ne_nil_of_mem (a:=p) (List.mem_filter.mpr ⟨List.mem_cons_self,decide_eq_true fun z=>?_⟩)
   obtain ⟨v,rfl⟩:∃ v,w=v + 1:=⟨w - 1,by omega⟩
   have:p.1∈ks r:=List.mem_of_mem_drop (show p.1∈(ks r).drop v from z)
   exact (List.nodup_cons.mp g.nd).1 this
 ·have:=KR hnd hsub
  rw [List.length_take] at this
  have e:(ks (L7 r ((ks r).drop w))).length=(L7 r ((ks r).drop w)).length:=List.length_map _
  omega
structure Shp (sh:Int) (b w:Nat):Prop where
 hb:atI [Dt.int 2,Dt.int 1,Dt.int 3] sh=some (Dt.int (b:Nat))
 hw:atI [Dt.int 2,Dt.int 3,Dt.int 1] sh=some (Dt.int (w:Nat))
 ho:(b=2∧w=2)∨(b=1∧w=3)∨(b=3∧w=1)
section
variable {d0 d1 d5 d6:Option Lo} {N:List Kn} {s:Int × Int} {sh:Int} {j:Nat}
theorem XG{b w:Nat}(hsh:Shp sh b w)(hs:Rb s)(hN:N.length≤20)(hN0:N≠[]):∀ (ds:List Dt) (Rs:List Row) (x9 x10 x11:Option Lo) (C:List Cell) (bx:Bx),C[j]? = some (JF bx)→bx.n + 100 * ds.length≤700000000→Gw N w Rs→Rs.length + ds.length≤1000 →
  ∃ (Rs':List Row) (x9' x10' x11':Option Lo) (C':List Cell),Gw N w Rs'∧Rs'.length=Rs.length + ds.length∧Bm (Ai 9) (Ao (BO 10 (Az 12 (Er K cs) (xP (Ab (Aa 7) (Ab (Aa 2) (Ab (Aa 3) Ag)))) [7,2,3]) [])
  (Ao (AW (Ai 11) (AD (Nx (eL (II 12 10)) (M6 (FD.e2 (eL (Fx (Ab (eC (.int 2)) (Ab (eC (.int 3)) (Ab (eC (.int 1)) Ag))))) (Aa 4) Bl)) Ik)) []
  (G8 12 10 (Aa 11)))
  (FE 8 (LC 12 (Aa 10)) []))) ds (Rc d0 d1 N s sh d5 d6 j Rs x9 x10 x11 C)=.ok .nx (Rc d0 d1 N s sh d5 d6 j Rs' x9' x10' x11' C')
 | [],Rs,x9,x10,x11,C,bx,_,_,g,_=>⟨Rs,x9,x10,x11,C,g,rfl,rfl⟩
 | d :: ds,Rs,x9,x10,x11,C,bx,hb,hn,g,hl=>by
  simp only [List.length_cons] at hn hl
  obtain ⟨r,C1,b1,m,t1,h1,gr,nr,u1⟩:=lj (K:=K) (cs:=cs) hb (by omega) hs hN hN0
  have hw1:1≤w:=by rcases hsh.ho with h | h | h <;> omega
  obtain ⟨x11a,C2,h2,e2⟩:=Vc (d0:=d0) (d1:=d1) (N:=N) (s:=s) (sh:=sh) (d5:=d5) (d6:=d6) (Rs:=Rs) (x9:=some (.sh d)) ((ks r).drop w) r x11 C1 b1 h1 (List.Nodup.sublist (List.drop_sublist _ _) gr.nd) fun k hk=>List.mem_of_mem_drop hk
  obtain ⟨g2,n2,l2⟩:=jf gr nr hw1
  obtain ⟨q,hq⟩:∃ q,q=L7 r ((ks r).drop w):=⟨_,rfl⟩
  rw [← hq] at h2 g2 n2 l2
  have hj:(C2.set m .gone)[j]? = some (JF b1):=by rw [List.getElem?_set_ne h2.ne]; exact h2.bx
  obtain ⟨Rs',x9',x10',x11',C',g',hl',e⟩:=XG hsh hs hN hN0 ds (Rs ++ [q]) (some (.sh d)) (some (.sh (.ad m))) x11a (C2.set m .gone) b1 hj (by omega) (g.app g2 n2 l2) (by rw [List.length_append,List.length_singleton]; omega)
  refine ⟨Rs',x9',x10',x11',C',g',by rw [hl',List.length_append,List.length_singleton,List.length_cons]; omega,?_⟩
  have hk:II 12 10 (Rc d0 d1 N s sh d5 d6 j Rs (some (.sh d)) (some (.sh (.ad m))) x11 C1)=.ok ((ks r).map sD):=by
   show GI ((C1[m]?).bind cellK)=_
   rw [h1.rw]
   show Out.ok ((Cc r).map IW)=_
   rw [Jj]
  have hf:AW (Ai 11) (AD (Nx (eL (II 12 10)) (M6 (FD.e2 (eL (Fx (Ab (eC (.int 2)) (Ab (eC (.int 3)) (Ab (eC (.int 1)) Ag))))) (Aa 4) Bl)) Ik)) [] (G8 12 10 (Aa 11)) (Rc d0 d1 N s sh d5 d6 j Rs (some (.sh d)) (some (.sh (.ad m))) x11 C1)=.ok .nx (Rc d0 d1 N s sh d5 d6 j Rs (some (.sh d)) (some (.sh (.ad m))) x11a C2):=by
   rw [BY]
   unfold Rc at hk e2 ⊢
   simp! [hk,hsh.hw,lE]
   exact e2
  have hz:LC 12 (Aa 10) (Rc d0 d1 N s sh d5 d6 j Rs (some (.sh d)) (some (.sh (.ad m))) x11a C2)=.ok (rD q) (Rc d0 d1 N s sh d5 d6 j Rs (some (.sh d)) (some (.sh (.ad m))) x11a (C2.set m .gone)):=by
   show (match ((some C2).bind fun cs=>(cs[m]?).bind fun c=>(f6 c).map fun e=>(e,(Rc d0 d1 N s sh d5 d6 j Rs (some (.sh d)) (some (.sh (.ad m))) x11a C2).set 12 (some (.mh (cs.set m .gone))))) with
    | some p=>XO.ok p.1 p.2
    | none=>.bad)=_
   rw [Option.bind_some,h2.rw]
   rfl
  have hle:(Rs.map rD).length < 16777216:=by rw [List.length_map]; omega
  have em:Rs.map rD ++ [rD q]=(Rs ++ [q]).map rD:=by rw [List.map_append]; rfl
  have ha:FE 8 (LC 12 (Aa 10)) [] (Rc d0 d1 N s sh d5 d6 j Rs (some (.sh d)) (some (.sh (.ad m))) x11a C2)=.ok .nx (Rc d0 d1 N s sh d5 d6 j (Rs ++ [q]) (some (.sh d)) (some (.sh (.ad m))) x11a (C2.set m .gone)):=by
   show xE (LC 12 (Aa 10) (Rc d0 d1 N s sh d5 d6 j Rs (some (.sh d)) (some (.sh (.ad m))) x11a C2)) _=_
   rw [hz,Og,FD.GV]
   show (if (Rs.map rD).length < 16777216 then SOut.ok .nx (Rc d0 d1 N s sh d5 d6 j Rs (some (.sh d)) (some (.sh (.ad m))) x11a (C2.set m .gone) |>.set 8 (some (.ol (Rs.map rD ++ [rD q])))) else .bad)=_
   rw [if_pos hle,em]
   rfl
  unfold Rc at hf ha e
  rw [BX]
  unfold Rc
  simp! [t1,hf,ha]
  exact e
def Tg(G:Kn→List Row)(k:Kn)(R:List Row):Kn→List Row:=fun z=>if z=k then R else G z
theorem Ta(G:Kn→List Row)(k:Kn)(R:List Row):Tg G k R k=R:=if_pos rfl
theorem TQ{G:Kn→List Row}{k z:Kn}{R:List Row}(h:z≠k):Tg G k R z=G z:=if_neg h
theorem Xz{P:List Kn}{k:Kn}(h:k∉P)(G:Kn→List Row)(R:List Row):Df (P.map kN) (P.map fun k=>DB (G k)) (Sum.inr (S k)) (.lst (R.map rD))=(P ++ [k]).map fun z=>DB (Tg G k R z):=by
 have e:=Hf h fun z=>DB (Tg G k R z)
 have e1:(P.map fun z=>DB (Tg G k R z))=P.map fun k=>DB (G k):=List.map_congr_left fun z hz=>by rw [TQ (show z≠k from fun e=>h (e ▸ hz))]
 rw [e1] at e
 have e2:DB (Tg G k R k)=.lst (R.map rD):=by rw [Ta]; rfl
 rw [e2] at e
 exact e
abbrev lx(ns:List Int)(bg:Nat)(N:List Kn)(s:Int × Int)(sh:Int)(P:List Kn)(G:Kn→List Row)(x6 x7 x8 x9 x10 x11:Option Lo)(C:List Cell):FD.Env:=[some (.sh (.fls (ns.map .int))),some (.sh (.int bg)),some (.sh (.lst (N.map sD))),some (.sh (DA s)),some (.sh (.int sh)),some (.od (P.map kN) (P.map fun k=>DB (G k))),x6,x7,x8,x9,x10,x11,some (.mh C)]
def idx:Nat→List Kn→List Dt
 | _,[]=>[]
 | m,_ :: L=>.int (m:Nat) :: idx (m + 1) L
theorem XJ:∀ (L:List Kn) (m:Nat),idx m L=(List.range' m L.length).map fun k:Nat=>.int (k:Int)
 | [],m=>rfl
 | k :: L,m=>by
  rw [List.length_cons,List.range'_succ,List.map_cons,← XJ L (m + 1)]
  rfl
structure Gf (N:List Kn) (b w:Nat) (R:List Row):Prop where
 gw:Gw N w R
 len:R.length≤b
 ne:R≠[]
theorem VC{ns:List Int}(hns:ns.length≤63){bg:Nat}(hbg:bg≤500){N:List Kn}{s:Int × Int}{sh:Int}{b w:Nat}(hsh:Shp sh b w)(hs:Rb s)(hN:N.length≤20)(nd:N.Nodup):∀ (L P:List Kn) (G:Kn→List Row) (x6 x7 x8 x9 x10 x11:Option Lo) (C:List Cell),N=P ++ L →
  ∃ (F:Kn→List Row) (x6' x7' x8' x9' x10' x11':Option Lo) (C':List Cell),(∀ k∈P,F k=G k)∧(∀ k∈L,Gf N b w (F k))∧Bm (Ai 6) (Ao (BO 7 (Az 12 (BL K cs) (xP (Ab (Aa 0) (Ab (FD.e2 (Aa 1) (Aa 6) AV) Ag))) [0,1,6]) [])
  (Ao (Hh 8 (Fx Ag) [])
  (Ao (Se (Ai 9) (Jy (LZ (FD.x2 (xP (eC (.int 1))) (Az 12 (Ap K cs) (xP (Ab (Aa 7) (Ab (FD.e2 (eL (Fx (Ab (eC (.int 2)) (Ab (eC (.int 1)) (Ab (eC (.int 3)) Ag))))) (Aa 4) Bl) Ag))) [7,4]) AV) (xP Ag))) []
  (Ao (BO 10 (Az 12 (Er K cs) (xP (Ab (Aa 7) (Ab (Aa 2) (Ab (Aa 3) Ag)))) [7,2,3]) [])
  (Ao (AW (Ai 11) (AD (Nx (eL (II 12 10)) (M6 (FD.e2 (eL (Fx (Ab (eC (.int 2)) (Ab (eC (.int 3)) (Ab (eC (.int 1)) Ag))))) (Aa 4) Bl)) Ik)) []
  (G8 12 10 (Aa 11)))
  (FE 8 (LC 12 (Aa 10)) []))))
  (A8 5 (FD.e2 (Aa 2) (Aa 6) Bl) (Aa 8) [8])))) (idx P.length L) (lx ns bg N s sh P G x6 x7 x8 x9 x10 x11 C)=.ok .nx (lx ns bg N s sh N F x6' x7' x8' x9' x10' x11' C')
 | [],P,G,x6,x7,x8,x9,x10,x11,C,e=>⟨G,x6,x7,x8,x9,x10,x11,C,fun _ _=>rfl,(fun k hk=>nomatch hk),by rw [e,List.append_nil]; rfl⟩
 | k :: L,P,G,x6,x7,x8,x9,x10,x11,C,eN=>by
  have hk:k∉P:=fun z=>by
   rw [eN] at nd
   exact (List.nodup_append.mp nd).2.2 k z k List.mem_cons_self rfl
  have hkN:N≠[]:=by rw [eN]; simp
  have hPl:P.length < N.length:=by
   have:=congrArg List.length eN
   rw [List.length_append,List.length_cons] at this
   omega
  obtain ⟨bx,t1,hbn⟩:=XQ (K:=K) (cs:=cs) ns (k:=bg + P.length) (by omega) hns C
  have hbx:(C ++ [JF bx])[C.length]? = some (JF bx):=by simp
  have hb1:1≤b:=by rcases hsh.ho with h | h | h <;> omega
  have hb3:b≤3:=by rcases hsh.ho with h | h | h <;> omega
  obtain ⟨v,C1,b1,t2,v0,v1,s1⟩:=Jq (K:=K) (cs:=cs) hbx (by omega) (s:=(b:Nat)) (by omega) (by omega)
  have u1:=s1.up
  obtain ⟨c,hc⟩:∃ c:Nat,c=(1 + v).toNat:=⟨_,rfl⟩
  have hc1:1≤c:=by omega
  have hcb:c≤b:=by omega
  obtain ⟨Rs,x9',x10',x11',C2,gw,hl,e2⟩:=XG (K:=K) (cs:=cs) (d0:=some (.sh (.fls (ns.map .int)))) (d1:=some (.sh (.int bg))) (d5:=some (.od (P.map kN) (P.map fun k=>DB (G k)))) (d6:=some (.sh (.int (P.length:Nat)))) (j:=C.length) hsh hs hN hkN (JL 0 c) [] x9 x10 x11 C1 b1 s1.NR (by rw [Hl]; omega) ⟨fun r hr=>(nomatch hr),fun r hr=>(nomatch hr),fun r hr=>(nomatch hr)⟩ (by rw [Hl,List.length_nil]; omega)
  rw [Hl,List.length_nil] at hl
  obtain ⟨F,x6',x7',x8',x9'',x10'',x11'',C',hF1,hF2,e⟩:=VC hns hbg hsh hs hN nd L (P ++ [k]) (Tg G k Rs) (some (.sh (.int (P.length:Nat)))) (some (.sh (.ad C.length))) (some (.sh (.lst (Rs.map rD)))) x9' x10' x11' C2 (by rw [List.append_assoc]; exact eN)
  refine ⟨F,x6',x7',x8',x9'',x10'',x11'',C',fun z hz=>?_,fun z hz=>?_,?_⟩
  ·rw [hF1 z (List.mem_append_left _ hz),TQ (show z≠k from fun e=>hk (e ▸ hz))]
  ·rcases List.mem_cons.mp hz with e | hz
   ·rw [e,hF1 k (List.mem_append_right _ List.mem_cons_self),Ta]
    exact ⟨gw,by omega,fun z=>by rw [z] at hl; simp at hl; omega⟩
   ·exact hF2 z hz
  ·have hs1:Fi (1 + v)=true:=Kd (by omega) (by omega)
   have ha:(bg:Int) + ((P.length:Nat):Int)=((bg + P.length:Nat):Int):=by omega
   have hix:atI (N.map sD) ((P.length:Nat):Int)=some (.str (S k)):=by
    rw [UQ (f:=sD) hPl]
    have:N[P.length]=k:=by simp [eN]
    rw [this]
    rfl
   have hfx:Bm (Ai 9) (Ao (BO 10 (Az 12 (Er K cs) (xP (Ab (Aa 7) (Ab (Aa 2) (Ab (Aa 3) Ag)))) [7,2,3]) [])
  (Ao (AW (Ai 11) (AD (Nx (eL (II 12 10)) (M6 (FD.e2 (eL (Fx (Ab (eC (.int 2)) (Ab (eC (.int 3)) (Ab (eC (.int 1)) Ag))))) (Aa 4) Bl)) Ik)) []
  (G8 12 10 (Aa 11)))
  (FE 8 (LC 12 (Aa 10)) []))) (JL 0 c) [some (.sh (.fls (ns.map .int))),some (.sh (.int bg)),some (.sh (.lst (N.map sD))),some (.sh (DA s)),some (.sh (.int sh)),some (.od (P.map kN) (P.map fun k=>DB (G k))),some (.sh (.int (P.length:Nat))),some (.sh (.ad C.length)),some (.ol []),x9,x10,x11,some (.mh C1)]=_:=e2
   have pk:=Gm hk
   have pv:=Xz hk G Rs
   have hlen:(P.map kN).length < 16777216:=map_len P kN (by omega)
   rw [List.length_append,List.length_singleton] at e
   have ei:idx P.length (k :: L)=.int (P.length:Nat) :: idx (P.length + 1) L:=rfl
   rw [ei,BX]
   unfold lx at e ⊢
   unfold Rc at hfx
   simp! [ha,t1,hsh.hb,t2,Jz,hs1,← hc,hfx,hix,pk,pv,hlen,e,FD.EO]
theorem cQ{ns:List Int}(hns:ns.length≤63){bg:Nat}(hbg:bg≤500){N:List Kn}{s:Int × Int}{sh:Int}{b w:Nat}(hsh:Shp sh b w)(hs:Rb s)(hN:N.length≤20)(nd:N.Nodup):
  ∃ F:Kn→List Row,(∀ k∈N,Gf N b w (F k))∧Dz K cs [.fls (ns.map .int),.int bg,.lst (N.map sD),DA s,.int sh]=.ok (AN N F):=by
 have ed:Dz K cs [.fls (ns.map .int),.int bg,.lst (N.map sD),DA s,.int sh]=QP 12 (Hz K cs) [.fls (ns.map .int),.int bg,.lst (N.map sD),DA s,.int sh]:=AJ rfl
 rw [ed]
 unfold Hz
 obtain ⟨F,x6,x7,x8,x9,x10,x11,C,_,h,e⟩:=VC (K:=K) (cs:=cs) hns hbg hsh hs hN nd N [] (fun _=>[]) none none none none none none [] rfl
 refine ⟨F,h,?_⟩
 have er:JL 0 N.length=idx 0 N:=by rw [XJ,TJ,List.range_eq_range']
 have gl:CI [.lst (N.map sD)]=some (.int (N.length:Nat)):=by rw [KL,List.length_map]
 have hs1:Fi (N.length:Int)=true:=Kd (by omega) (by omega)
 have hf:AW (Ai 6) (Dr (Ab (eB CI (Ab (Aa 2) Ag)) Ag)) [] (Ao (BO 7 (Az 12 (BL K cs) (xP (Ab (Aa 0) (Ab (FD.e2 (Aa 1) (Aa 6) AV) Ag))) [0,1,6]) [])
  (Ao (Hh 8 (Fx Ag) [])
  (Ao (Se (Ai 9) (Jy (LZ (FD.x2 (xP (eC (.int 1))) (Az 12 (Ap K cs) (xP (Ab (Aa 7) (Ab (FD.e2 (eL (Fx (Ab (eC (.int 2)) (Ab (eC (.int 1)) (Ab (eC (.int 3)) Ag))))) (Aa 4) Bl) Ag))) [7,4]) AV) (xP Ag))) []
  (Ao (BO 10 (Az 12 (Er K cs) (xP (Ab (Aa 7) (Ab (Aa 2) (Ab (Aa 3) Ag)))) [7,2,3]) [])
  (Ao (AW (Ai 11) (AD (Nx (eL (II 12 10)) (M6 (FD.e2 (eL (Fx (Ab (eC (.int 2)) (Ab (eC (.int 3)) (Ab (eC (.int 1)) Ag))))) (Aa 4) Bl)) Ik)) []
  (G8 12 10 (Aa 11)))
  (FE 8 (LC 12 (Aa 10)) []))))
  (A8 5 (FD.e2 (Aa 2) (Aa 6) Bl) (Aa 8) [8])))) [some (.sh (.fls (ns.map .int))),some (.sh (.int bg)),some (.sh (.lst (N.map sD))),some (.sh (DA s)),some (.sh (.int sh)),some (.od [] []),none,none,none,none,none,none,some (.mh [])]=.ok .nx (lx ns bg N s sh N F x6 x7 x8 x9 x10 x11 C):=by
  rw [BY]
  simp! [gl,Jz,hs1,Int.toNat_natCast,er]
  exact e
 unfold QP
 have hna:Dt.IA [.fls (ns.map .int),.int bg,.lst (N.map sD),DA s,.int sh]=true:=by
  have h1:(Dt.fls (ns.map .int)).na=true:=by
   rw [Dt.na]
   exact GN (fun _=>rfl) ns
  have h2:(Dt.lst (N.map sD)).na=true:=by
   rw [Dt.na]
   exact GN (fun _=>rfl) N
  rw [Dt.IA,h1,Dt.IA,Dt.IA,h2]
  rfl
 rw [if_pos hna]
 unfold lx at hf
 have hnr:(Dt.dic (N.map kN) (N.map fun k=>DB (F k))).na=true:=bp N F
 simp! [hf,EZ,hnr]
 rfl
end
theorem NG{N P L:List Kn}(h:N=P ++ L)(hN:N.length≤20):(P.map kN).length < 16777216:=map_len P kN (K8 h hN)
theorem gA{P:List Kn}{k:Kn}(h:k∉P)(F:Kn→List Row):Df (P.map kN) (P.map fun k=>DB (F k)) (Sum.inr (S k)) (.lst ((F k).map rD))=(P ++ [k]).map fun k=>DB (F k):=Hf h fun k=>DB (F k)
theorem K3{u:Dt→FD.Env→Option FD.Env}{b:FD.Env→SOut}{E:List Kn→FD.Env→Prop}{A:List Kn}(nd:A.Nodup)(step:∀ P k L ρ,A=P ++ k :: L→k∉P→k∈A→E P ρ→∃ ρ1 ρ2,u (sD k) ρ=some ρ1∧b ρ1=.ok .nx ρ2∧E (P ++ [k]) ρ2):
  ∀ (L P:List Kn) (ρ:FD.Env),A=P ++ L→E P ρ→∃ ρ',Bm u b (L.map sD) ρ=.ok .nx ρ'∧E A ρ'
 | [],P,ρ,e,h=>⟨ρ,rfl,by rw [e,List.append_nil]; exact h⟩
 | k :: L,P,ρ,e,h=>by
  have hk:k∉P:=fun z=>by
   rw [e] at nd
   exact (List.nodup_append.mp nd).2.2 k z k List.mem_cons_self rfl
  obtain ⟨ρ1,ρ2,h1,h2,h3⟩:=step P k L ρ e hk (by rw [e]; exact List.mem_append_right _ List.mem_cons_self) h
  obtain ⟨ρ',h4,h5⟩:=K3 nd step L (P ++ [k]) ρ2 (by rw [List.append_assoc]; exact e) h3
  exact ⟨ρ',by rw [List.map_cons,G6 h1,h2]; exact h4,h5⟩
theorem iV{N:List Kn}{F:Kn→List Row}(nd:N.Nodup)(hN:N.length≤20)(hl:∀ k∈N,(F k).length≤1000):C9 K cs [AN N F]=.ok (AN N F):=by
 have ed:C9 K cs [AN N F]=AB 4 (Ig K cs) [AN N F]:=AJ rfl
 rw [ed]
 unfold Ig
 obtain ⟨x',e⟩:=DZ (u:=Ai 2) (b:=(A8 1 (Aa 2) (eL (EA (Ai 3) [3] AI (eB FT (Ab (Aa 3) Ag)) (AD (FD.e2 (Aa 0) (Aa 2) Au)) [0,2])) [0,2,3,3])) (mk:=fun P x=>[some (.sh (AN N F)),some (.od (P.map kN) (P.map fun k=>DB (F k))),x,none]) nd (fun P k L x eA hk hkA=>by
  refine ⟨[some (.sh (AN N F)),some (.od (P.map kN) (P.map fun k=>DB (F k))),some (.sh (sD k)),none],some (.sh (sD k)),rfl,?_⟩
  have ga:Au (AN N F) (sD k)=some (DB (F k)):=JI hkA
  have hi:(EA (Ai 3) [3] AI (eB FT (Ab (Aa 3) Ag)) (AD (FD.e2 (Aa 0) (Aa 2) Au)) [0,2]) [some (.sh (AN N F)),some (.od (P.map kN) (P.map fun k=>DB (F k))),some (.sh (sD k)),none]=.ok ((F k).map rD):=by
   refine CM (e:=rD) (by rw [CB]; simp! [ga]; rfl) (by have:=hl k hkA; omega) fun r hr=>⟨[some (.sh (AN N F)),some (.od (P.map kN) (P.map fun k=>DB (F k))),some (.sh (sD k)),some (.sh (rD r))],rfl,?_⟩
   have gd:FT [rD r]=some (rD r):=rfl
   simp! [gd]
  have pk:=Gm hk
  have pv:=gA hk F
  have hlen:=NG eA hN
  unfold sD at ga hi ⊢
  simp! [ga,hi,pk,pv,hlen,FD.EO]) N [] none rfl
 have hf:=KJ (i:=0) (A:=N) (ρ:=[some (.sh (AN N F)),some (.od [] []),none,none]) rfl rfl e
 simp! [hf,EZ]
 rfl
theorem Zx{N:List Kn}{F G:Kn→List Row}(nd:N.Nodup)(hN:N.length≤20)(hl:∀ k∈N,(F k).length≤100)(hg:∀ k∈N,(G k).length≤100):GJ K cs [AN N F,AN N G]=.ok (AN N fun k=>F k ++ G k):=by
 have ed:GJ K cs [AN N F,AN N G]=AB 5 (Gz K cs) [AN N F,AN N G]:=AJ rfl
 rw [ed]
 unfold Gz
 obtain ⟨x',e⟩:=DZ (u:=Ai 3) (b:=(A8 2 (Aa 3) (eL (EA (Ai 4) [4] AI (eB FT (Ab (Aa 4) Ag)) (AD (FD.e2 (FD.e2 (Aa 0) (Aa 3) Au) (FD.e2 (Aa 1) (Aa 3) Au) AV)) [0,3,1,3])) [0,3,1,3,4,4])) (mk:=fun P x=>[some (.sh (AN N F)),some (.sh (AN N G)),some (.od (P.map kN) (P.map fun k=>DB (F k ++ G k))),x,none]) nd (fun P k L x eA hk hkA=>by
  refine ⟨[some (.sh (AN N F)),some (.sh (AN N G)),some (.od (P.map kN) (P.map fun k=>DB (F k ++ G k))),some (.sh (sD k)),none],some (.sh (sD k)),rfl,?_⟩
  have ga:Au (AN N F) (sD k)=some (DB (F k)):=JI hkA
  have gb:Au (AN N G) (sD k)=some (DB (G k)):=JI hkA
  have l1:=hl k hkA
  have l2:=hg k hkA
  have gab:AV (DB (F k)) (DB (G k))=some (DB (F k ++ G k)):=by
   unfold DB
   rw [Nd,List.length_map,List.length_map,if_pos (by omega),List.map_append]
  have hi:(EA (Ai 4) [4] AI (eB FT (Ab (Aa 4) Ag)) (AD (FD.e2 (FD.e2 (Aa 0) (Aa 3) Au) (FD.e2 (Aa 1) (Aa 3) Au) AV)) [0,3,1,3]) [some (.sh (AN N F)),some (.sh (AN N G)),some (.od (P.map kN) (P.map fun k=>DB (F k ++ G k))),some (.sh (sD k)),none]=.ok ((F k ++ G k).map rD):=by
   refine CM (e:=rD) (by rw [CB]; simp! [ga,gb,gab]; rfl) (by rw [List.length_append]; omega) fun r hr=>⟨[some (.sh (AN N F)),some (.sh (AN N G)),some (.od (P.map kN) (P.map fun k=>DB (F k ++ G k))),some (.sh (sD k)),some (.sh (rD r))],rfl,?_⟩
   have gd:FT [rD r]=some (rD r):=rfl
   simp! [gd]
  have pk:=Gm hk
  have pv:=gA hk fun k=>F k ++ G k
  have hlen:=NG eA hN
  unfold sD at ga gb hi ⊢
  simp! [ga,gb,hi,pk,pv,hlen,FD.EO]) N [] none rfl
 have hf:=KJ (i:=0) (A:=N) (ρ:=[some (.sh (AN N F)),some (.sh (AN N G)),some (.od [] []),none,none]) rfl rfl e
 simp! [hf,EZ]
 rfl
theorem Qx{d0:Option Lo}{q:Row}(nq:(ks q).Nodup):∀ (b acc:Row) (x4 x5:Option Lo),(∀ p∈b,p∈q)→acc.length + b.length≤1000→∃ x4' x5',Bm (Ai 4) (Ao (B2 5 (FD.e2 (FD.e2 (Aa 1) (Aa 4) Au) (Aa 2) AV) [1,4,2])
  (BR (Cb (FD.t2 (Aa 4) (Aa 3) (Dq DN)) (FD.t2 (FD.e2 (Aa 3) (Aa 4) Au) (Aa 5) (cI fun i j=>decide (i < j)))) (A8 3 (Aa 4) (Aa 5) [5]) Ar)) ((ks b).map sD) [d0,some (.sh (rD q)),some (.sh (.int 0)),some (.od (Cc acc) (D7 acc)),x4,x5]=.ok .nx [d0,some (.sh (rD q)),some (.sh (.int 0)),some (.od (Cc (Bh acc b)) (D7 (Bh acc b))),x4',x5']
 | [],acc,x4,x5,_,_=>⟨x4,x5,rfl⟩
 | p :: b,acc,x4,x5,hb,hl=>by
  simp only [List.length_cons] at hl
  have lp:=Lc acc p.1 p.2
  have ls:(CJ acc p).length≤acc.length + 1:=by
   unfold CJ
   split
   ·split
    ·exact lp
    ·omega
   ·exact lp
  obtain ⟨x4',x5',e⟩:=Qx (d0:=d0) nq b (CJ acc p) (some (.sh (.str (S p.1)))) (some (.sh (.int (p.2 + 0)))) (fun z hz=>hb z (List.mem_cons_of_mem _ hz)) (by omega)
  refine ⟨x4',x5',?_⟩
  have em:Bh acc (p :: b)=Bh (CJ acc p) b:=rfl
  have g0:Au (rD q) (.str (S p.1))=some (.int p.2):=by
   rw [T4,JH nq (hb p List.mem_cons_self)]
   rfl
  have gi:DN (.str (S p.1)) (.dic (Cc acc) (D7 acc))=some (decide (p.1∈ks acc)):=kU acc p.1
  have ga:Au (.dic (Cc acc) (D7 acc)) (.str (S p.1))=(gt acc p.1).map .int:=T4 acc p.1
  have pk:E2 (Cc acc) (Sum.inr (S p.1))=Cc (Dl acc p.1 p.2):=NT acc p.1 p.2
  have pv:Df (Cc acc) (D7 acc) (Sum.inr (S p.1)) (.int p.2)=D7 (Dl acc p.1 p.2):=NY acc p.1 p.2
  have hkl:(Cc acc).length < 16777216:=by rw [Iy]; omega
  have gi':decide (Sum.inr (S p.1)∈Cc acc)=decide (p.1∈ks acc):=decide_eq_decide.mpr Ii
  rw [em,show (ks (p :: b)).map sD=Dt.str (S p.1) :: (ks b).map sD from rfl,BX]
  rw [Int.add_zero] at e
  cases hg:gt acc p.1 with
  | none=>
   have hk:p.1∉ks acc:=Iw.mp hg
   have es:CJ acc p=Dl acc p.1 p.2:=by unfold CJ; rw [hg]
   rw [es] at e
   rw [decide_eq_false hk] at gi gi'
   rw [es]
   simp! [g0,Int.add_zero,gi,gi',pk,pv,hkl,FD.Ee,e]
  | some y=>
   have hk:p.1∈ks acc:=Eu (Hb hg)
   rw [decide_eq_true hk] at gi gi'
   rw [hg] at ga
   by_cases hy:y < p.2
   ·have es:CJ acc p=Dl acc p.1 p.2:=by unfold CJ; rw [hg]; exact if_pos hy
    rw [es] at e
    rw [es]
    simp! [g0,Int.add_zero,gi,gi',ga,hy,decide_true,pk,pv,hkl,FD.Ee,e]
   ·have es:CJ acc p=acc:=by unfold CJ; rw [hg]; exact if_neg hy
    rw [es] at e
    rw [es]
    simp! [g0,Int.add_zero,gi,gi',ga,hy,decide_false,e]
theorem YO{a b:Row}(nb:(ks b).Nodup)(hl:a.length + b.length≤1000):CT K cs [rD a,rD b,.int 0]=.ok (rD (Bh a b)):=by
 have ed:CT K cs [rD a,rD b,.int 0]=AB 6 (GH K cs) [rD a,rD b,.int 0]:=AJ rfl
 rw [ed]
 unfold GH
 obtain ⟨x4,x5,e⟩:=Qx (d0:=some (.sh (rD a))) nb b a none none (fun _ h=>h) hl
 have hd:M7 3 (Ab (Aa 0) Ag) [0] [some (.sh (rD a)),some (.sh (rD b)),some (.sh (.int 0)),none,none,none]=.ok .nx [some (.sh (rD a)),some (.sh (rD b)),some (.sh (.int 0)),some (.od (Cc a) (D7 a)),none,none]:=by
  show (if Dt.E7 (D7 a)=true then _ else _)=_
  rw [if_pos (Xo a)]
  rfl
 have hf:=O1 (i:=1) (r:=b) (ρ:=[some (.sh (rD a)),some (.sh (rD b)),some (.sh (.int 0)),some (.od (Cc a) (D7 a)),none,none]) rfl rfl e
 simp! [hd,hf,EZ]
 rfl
theorem Sa{N:List Kn}{F G:Kn→List Row}{k:Kn}(hk:k∈N){d2:Option Lo}(ng:∀ s∈G k,(ks s).Nodup)(hg:(G k).length≤30)(lg:∀ s∈G k,s.length≤100):∀ (R acc:List Row) (x5:Option Lo),(∀ r∈R,r.length≤100)→acc.length + R.length * 30≤10000 →
  ∃ x5',Bm (Ai 5) (B2 4 (FD.e2 (Aa 4) (eL (EA (Ai 6) [6] AI (Aj (CT K cs) (Ab (Aa 5) (Ab (Aa 6) (Ab (eC (.int 0)) Ag)))) (AD (FD.e2 (Aa 1) (Aa 3) Au)) [1,3])) AV) [4,1,3,5,6,6]) (R.map rD) [some (.sh (AN N F)),some (.sh (AN N G)),d2,some (.sh (.str (S k))),some (.sh (DB acc)),x5,none]=.ok .nx [some (.sh (AN N F)),some (.sh (AN N G)),d2,some (.sh (.str (S k))),some (.sh (DB (acc ++ joinR R (G k)))),x5',none]
 | [],acc,x5,_,_=>⟨x5,by rw [show joinR [] (G k)=[] from rfl,List.append_nil]; rfl⟩
 | r :: R,acc,x5,hr,hl=>by
  simp only [List.length_cons] at hl
  have e1:joinR (r :: R) (G k)=((G k).map fun s=>Bh r s) ++ joinR R (G k):=by unfold joinR; rw [List.flatMap_cons]
  obtain ⟨x5',e⟩:=Sa (F:=F) (G:=G) (d2:=d2) hk ng hg lg R (acc ++ (G k).map fun s=>Bh r s) (some (.sh (rD r))) (fun z hz=>hr z (List.mem_cons_of_mem _ hz)) (by rw [List.length_append,List.length_map]; omega)
  refine ⟨x5',?_⟩
  rw [List.append_assoc,← e1] at e
  have gb:Au (AN N G) (.str (S k))=some (DB (G k)):=JI hk
  have hi:(EA (Ai 6) [6] AI (Aj (CT K cs) (Ab (Aa 5) (Ab (Aa 6) (Ab (eC (.int 0)) Ag)))) (AD (FD.e2 (Aa 1) (Aa 3) Au)) [1,3]) [some (.sh (AN N F)),some (.sh (AN N G)),d2,some (.sh (.str (S k))),some (.sh (DB acc)),some (.sh (rD r)),none]=.ok ((G k).map fun s=>rD (Bh r s)):=by
   refine CM (e:=rD) (by rw [CB]; simp! [gb]; rfl) (by omega) fun s hs=>⟨[some (.sh (AN N F)),some (.sh (AN N G)),d2,some (.sh (.str (S k))),some (.sh (DB acc)),some (.sh (rD r)),some (.sh (rD s))],rfl,?_⟩
   have t:=YO (K:=K) (cs:=cs) (a:=r) (ng s hs) (by have:=hr r List.mem_cons_self; have:=lg s hs; omega)
   simp! [t]
  have gab:AV (DB acc) (.lst ((G k).map fun s=>rD (Bh r s)))=some (DB (acc ++ (G k).map fun s=>Bh r s)):=by
   unfold DB
   rw [Nd,List.length_map,List.length_map,if_pos (by omega),List.map_append,List.map_map]
   rfl
  have hz:∀ (ρ:FD.Env),AQ (DB (acc ++ (G k).map fun s=>Bh r s)) [4,1,3,5,6,6] ρ=frz [4,1,3,5,6,6] ρ:=fun _=>rfl
  rw [List.map_cons,BX]
  simp! [hi,gab,hz,e]
theorem jG{N:List Kn}{F G:Kn→List Row}(nd:N.Nodup)(hN:N.length≤20)(hl:∀ k∈N,(F k).length≤30)(lf:∀ k∈N,∀ r∈F k,r.length≤100)(ng:∀ k∈N,∀ s∈G k,(ks s).Nodup)(hg:∀ k∈N,(G k).length≤30)(lg:∀ k∈N,∀ s∈G k,s.length≤100):Ia K cs [AN N F,AN N G]=.ok (AN N fun k=>joinR (F k) (G k)):=by
 have ed:Ia K cs [AN N F,AN N G]=AB 7 (Ic K cs) [AN N F,AN N G]:=AJ rfl
 rw [ed]
 unfold Ic
 obtain ⟨ρ',e,x3,x4,x5,hρ⟩:=K3 (u:=Ai 3) (b:=(Ao (B2 4 (eL (Fx Ag)) [])
  (Ao (AW (Ai 5) (AD (FD.e2 (Aa 0) (Aa 3) Au)) [0,3]
  (B2 4 (FD.e2 (Aa 4) (eL (EA (Ai 6) [6] AI (Aj (CT K cs) (Ab (Aa 5) (Ab (Aa 6) (Ab (eC (.int 0)) Ag)))) (AD (FD.e2 (Aa 1) (Aa 3) Au)) [1,3])) AV) [4,1,3,5,6,6]))
  (A8 2 (Aa 3) (Aa 4) [4])))) (E:=fun P ρ=>∃ x3 x4 x5,ρ=[some (.sh (AN N F)),some (.sh (AN N G)),some (.od (P.map kN) (P.map fun k=>DB (joinR (F k) (G k)))),x3,x4,x5,none]) nd (fun P k L ρ eA hk hkA ⟨x3,x4,x5,hρ⟩=>by
  subst hρ
  obtain ⟨x5',e⟩:=Sa (K:=K) (cs:=cs) (F:=F) (G:=G) hkA (d2:=some (.od (P.map kN) (P.map fun k=>DB (joinR (F k) (G k))))) (ng k hkA) (hg k hkA) (lg k hkA) (F k) [] x5 (lf k hkA) (by have:=hl k hkA; simp only [List.length_nil]; omega)
  rw [List.nil_append] at e
  refine ⟨[some (.sh (AN N F)),some (.sh (AN N G)),some (.od (P.map kN) (P.map fun k=>DB (joinR (F k) (G k)))),some (.sh (sD k)),x4,x5,none],[some (.sh (AN N F)),some (.sh (AN N G)),some (.od ((P ++ [k]).map kN) ((P ++ [k]).map fun k=>DB (joinR (F k) (G k)))),some (.sh (sD k)),some (.sh (DB (joinR (F k) (G k)))),x5',none],rfl,?_,_,_,_,rfl⟩
  have ga:Au (AN N F) (.str (S k))=some (DB (F k)):=JI hkA
  have hf:AW (Ai 5) (AD (FD.e2 (Aa 0) (Aa 3) Au)) [0,3] (B2 4 (FD.e2 (Aa 4) (eL (EA (Ai 6) [6] AI (Aj (CT K cs) (Ab (Aa 5) (Ab (Aa 6) (Ab (eC (.int 0)) Ag)))) (AD (FD.e2 (Aa 1) (Aa 3) Au)) [1,3])) AV) [4,1,3,5,6,6]) [some (.sh (AN N F)),some (.sh (AN N G)),some (.od (P.map kN) (P.map fun k=>DB (joinR (F k) (G k)))),some (.sh (.str (S k))),some (.sh (.lst [])),x5,none]=.ok .nx [some (.sh (AN N F)),some (.sh (AN N G)),some (.od (P.map kN) (P.map fun k=>DB (joinR (F k) (G k)))),some (.sh (.str (S k))),some (.sh (DB (joinR (F k) (G k)))),x5',none]:=by
   rw [BY,CB]
   simp! [ga]
   exact e
  have pk:=Gm hk
  have pv:Df (P.map kN) (P.map fun k=>DB (joinR (F k) (G k))) (Sum.inr (S k)) (DB (joinR (F k) (G k)))=(P ++ [k]).map fun k=>DB (joinR (F k) (G k)):=Hf hk fun k=>DB (joinR (F k) (G k))
  have hlen:=NG eA hN
  have hz:∀ (ρ:FD.Env),AQ (DB (joinR (F k) (G k))) [4] ρ=frz [4] ρ:=fun _=>rfl
  unfold sD
  simp! [hf,hz,pk,pv,hlen,FD.EO]) N [] [some (.sh (AN N F)),some (.sh (AN N G)),some (.od [] []),none,none,none,none] rfl ⟨none,none,none,rfl⟩
 subst hρ
 have hf:=KJ (i:=0) (A:=N) (ρ:=[some (.sh (AN N F)),some (.sh (AN N G)),some (.od [] []),none,none,none,none]) rfl rfl e
 simp! [hf,EZ]
 rfl
abbrev a9(j:Nat)(N:List Kn)(F:Kn→List Row)(d2 d3:Option Lo)(Rs:List Row)(r acc:Row)(x7:Option Lo)(C:List Cell):FD.Env:=[some (.sh (.ad j)),some (.sh (AN N F)),d2,d3,some (.ol (Rs.map rD)),some (.sh (rD r)),some (.od (Cc acc) (D7 acc)),x7,some (.mh C)]
section
variable {j:Nat} {N:List Kn} {F:Kn→List Row} {d2 d3:Option Lo}
theorem gL{Rs:List Row}{r:Row}(nr:(ks r).Nodup)(lr:r.length≤100):∀ (L acc:Row) (x7:Option Lo) (C:List Cell) (b:Bx),C[j]? = some (JF b)→b.n + L.length≤900000000→(∀ p∈L,p∈r)→ks r=ks acc ++ ks L →
  ∃ (q:Row) (x7':Option Lo) (C':List Cell) (b':Bx),At C C' j b b' L.length∧ks q=ks r∧Bm (Ai 7) (EL 6 (Aa 7) (FD.x2 (xP (FD.e2 (Aa 5) (Aa 7) Au)) (Az 8 (Ap K cs) (xP (Ab (Aa 0) (Ab (eC (.int 2)) Ag))) [0]) AV) [5,7]) ((ks L).map sD) (a9 j N F d2 d3 Rs r acc x7 C)=.ok .nx (a9 j N F d2 d3 Rs r q x7' C')
 | [],acc,x7,C,b,hb,_,_,e=>⟨acc,x7,C,b,At.refl hb,by rw [e]; exact (List.append_nil _).symm,rfl⟩
 | p :: L,acc,x7,C,b,hb,hn,hm,e=>by
  simp only [List.length_cons] at hn
  obtain ⟨v,C1,b1,t1,v0,v1,s1⟩:=Jq (K:=K) (cs:=cs) hb (by omega) (s:=2) (by decide) (by decide)
  have u1:=s1.up
  have hk:p.1∉ks acc:=fun z=>by
   rw [e] at nr
   exact (List.nodup_append.mp nr).2.2 p.1 z p.1 List.mem_cons_self rfl
  have hal:acc.length≤100:=by
   have:=congrArg List.length e
   have e1:(ks r).length=r.length:=List.length_map _
   have e2:(ks acc).length=acc.length:=List.length_map _
   rw [List.length_append,e1,e2] at this
   omega
  have hks:ks (Dl acc p.1 (p.2 + v))=ks acc ++ [p.1]:=by rw [NN,if_neg hk]
  obtain ⟨q,x7',C',b',s2,hq,e2⟩:=gL (Rs:=Rs) nr lr L (Dl acc p.1 (p.2 + v)) (some (.sh (sD p.1))) C1 b1 s1.NR (by omega) (fun z hz=>hm z (List.mem_cons_of_mem _ hz)) (by rw [hks,List.append_assoc]; exact e)
  refine ⟨q,x7',C',b',(s1.trans s2).mono (by rw [List.length_cons]; omega),hq,?_⟩
  have g1:Au (rD r) (sD p.1)=some (.int p.2):=by
   have:=T4 r p.1
   rw [JH nr (hm p List.mem_cons_self)] at this
   exact this
  have hf:(FD.x2 (xP (FD.e2 (Aa 5) (Aa 7) Au)) (Az 8 (Ap K cs) (xP (Ab (Aa 0) (Ab (eC (.int 2)) Ag))) [0]) AV) (a9 j N F d2 d3 Rs r acc (some (.sh (sD p.1))) C)=.ok (.int (p.2 + v)) (a9 j N F d2 d3 Rs r acc (some (.sh (sD p.1))) C1):=by
   unfold a9
   simp! [g1,t1]
  have hp:(EL 6 (Aa 7) (FD.x2 (xP (FD.e2 (Aa 5) (Aa 7) Au)) (Az 8 (Ap K cs) (xP (Ab (Aa 0) (Ab (eC (.int 2)) Ag))) [0]) AV) [5,7]) (a9 j N F d2 d3 Rs r acc (some (.sh (sD p.1))) C)=.ok .nx (a9 j N F d2 d3 Rs r (Dl acc p.1 (p.2 + v)) (some (.sh (sD p.1))) C1):=km (k:=p.1) hf rfl rfl (by omega)
  unfold a9 at hp e2
  rw [show (ks (p :: L)).map sD=sD p.1 :: (ks L).map sD from rfl,BX]
  unfold a9
  simp! [hp,e2]
theorem Xa{w:Nat}(hw:w≤100):∀ (R Rs:List Row) (x5 x6 x7:Option Lo) (C:List Cell) (b:Bx),C[j]? = some (JF b)→b.n + 100 * R.length≤900000000→Gw N w R→Gw N w Rs→Rs.length + R.length≤1000 →
  ∃ (Rs':List Row) (x5' x6' x7':Option Lo) (C':List Cell) (b':Bx),At C C' j b b' (100 * R.length)∧Gw N w Rs'∧Rs'.length=Rs.length + R.length∧Bm (Ai 5) (Ao (Eb 6)
  (Ao (DU 5 (Ai 7)
  (EL 6 (Aa 7) (FD.x2 (xP (FD.e2 (Aa 5) (Aa 7) Au)) (Az 8 (Ap K cs) (xP (Ab (Aa 0) (Ab (eC (.int 2)) Ag))) [0]) AV) [5,7]))
  (Du 4 (Aa 6) [6]))) (R.map rD) [some (.sh (.ad j)),some (.sh (AN N F)),d2,d3,some (.ol (Rs.map rD)),x5,x6,x7,some (.mh C)]=.ok .nx [some (.sh (.ad j)),some (.sh (AN N F)),d2,d3,some (.ol (Rs'.map rD)),x5',x6',x7',some (.mh C')]
 | [],Rs,x5,x6,x7,C,b,hb,_,_,g,_=>⟨Rs,x5,x6,x7,C,b,At.refl hb,g,rfl,rfl⟩
 | r :: R,Rs,x5,x6,x7,C,b,hb,hn,hR,g,hl=>by
  simp only [List.length_cons] at hn hl
  have gr:=hR.g r List.mem_cons_self
  have lr:=hR.w r List.mem_cons_self
  obtain ⟨q,x7a,C1,b1,s1,hq,e1⟩:=gL (K:=K) (cs:=cs) (F:=F) (N:=N) (d2:=d2) (d3:=d3) (Rs:=Rs) gr.nd (by omega) r [] x7 C b hb (by omega) (fun _ h=>h) rfl
  have u1:=s1.up
  have hql:q.length=r.length:=by
   have:=congrArg List.length hq
   have e1:(ks r).length=r.length:=List.length_map _
   have e2:(ks q).length=q.length:=List.length_map _
   omega
  have gq:Gr N q:=⟨by rw [hq]; exact gr.nd,fun k hk=>gr.sub k (by rw [← hq]; exact hk)⟩
  have nq:q≠[]:=fun z=>hR.n r List.mem_cons_self (List.eq_nil_of_length_eq_zero (by rw [← hql,z]; rfl))
  obtain ⟨Rs',x5',x6',x7',C',b',s2,g',hl',e⟩:=Xa hw R (Rs ++ [q]) (some (.sh (rD r))) (some (.sh (rD q))) x7a C1 b1 s1.NR (by omega) ⟨fun z hz=>hR.g z (List.mem_cons_of_mem _ hz),fun z hz=>hR.n z (List.mem_cons_of_mem _ hz),fun z hz=>hR.w z (List.mem_cons_of_mem _ hz)⟩ (g.app gq nq (by omega)) (by rw [List.length_append,List.length_singleton]; omega)
  refine ⟨Rs',x5',x6',x7',C',b',(s1.trans s2).mono (by rw [List.length_cons]; omega),g',by rw [hl',List.length_append,List.length_singleton,List.length_cons]; omega,?_⟩
  have hf:DU 5 (Ai 7) (EL 6 (Aa 7) (FD.x2 (xP (FD.e2 (Aa 5) (Aa 7) Au)) (Az 8 (Ap K cs) (xP (Ab (Aa 0) (Ab (eC (.int 2)) Ag))) [0]) AV) [5,7]) [some (.sh (.ad j)),some (.sh (AN N F)),d2,d3,some (.ol (Rs.map rD)),some (.sh (rD r)),some (.od [] []),x7,some (.mh C)]=.ok .nx (a9 j N F d2 d3 Rs r q x7a C1):=O1 (r:=r) rfl rfl e1
  have hle:(Rs.map rD).length < 16777216:=by rw [List.length_map]; omega
  have em:Rs.map rD ++ [.dic (Cc q) (D7 q)]=(Rs ++ [q]).map rD:=by rw [List.map_append]; rfl
  rw [List.map_cons,BX]
  unfold a9 at hf
  simp! [hf,hle,em,EZ]
  exact e
end
theorem ZG{j:Nat}{N:List Kn}{F:Kn→List Row}{C:List Cell}{bx:Bx}{b w:Nat}(hb:C[j]? = some (JF bx))(hn:bx.n≤1000000)(nd:N.Nodup)(hN:N.length≤20)(hw:w≤100)(hb3:b≤3)(hF:∀ k∈N,Gf N b w (F k)):
  ∃ (G:Kn→List Row) (C':List Cell) (bx':Bx),DD K cs [.ad j,AN N F] C=.ok (AN N G) C'∧(∀ k∈N,Gf N b w (G k))∧C'[j]? = some (JF bx')∧bx'.n≤bx.n + 10000:=by
 have ed:DD K cs [.ad j,AN N F] C=runM 8 (GD K cs) [.ad j,AN N F] C:=GA rfl
 rw [ed]
 unfold GD
 obtain ⟨ρ',e,G,x3,x4,x5,x6,x7,C',bx',hρ,hG,hb',hn'⟩:=K3 (u:=Ai 3) (b:=(Ao (Hh 4 (Fx Ag) [])
  (Ao (AW (Ai 5) (AD (FD.e2 (Aa 1) (Aa 3) Au)) [1,3]
  (Ao (Eb 6)
  (Ao (DU 5 (Ai 7)
  (EL 6 (Aa 7) (FD.x2 (xP (FD.e2 (Aa 5) (Aa 7) Au)) (Az 8 (Ap K cs) (xP (Ab (Aa 0) (Ab (eC (.int 2)) Ag))) [0]) AV) [5,7]))
  (Du 4 (Aa 6) [6]))))
  (A8 2 (Aa 3) (Aa 4) [4])))) (E:=fun P ρ=>∃ (G:Kn→List Row) (x3 x4 x5 x6 x7:Option Lo) (C':List Cell) (bx':Bx),ρ=[some (.sh (.ad j)),some (.sh (AN N F)),some (.od (P.map kN) (P.map fun k=>DB (G k))),x3,x4,x5,x6,x7,some (.mh C')]∧(∀ k∈P,Gf N b w (G k))∧C'[j]? = some (JF bx')∧bx'.n≤bx.n + 300 * P.length) nd (fun P k L ρ eA hk hkA ⟨G,x3,x4,x5,x6,x7,C1,b1,hρ,hG,hb1,hn1⟩=>by
  subst hρ
  have lP:P.length < N.length:=by
   have:=congrArg List.length eA
   rw [List.length_append,List.length_cons] at this
   omega
  have hf:=hF k hkA
  have hfl:=hf.len
  obtain ⟨Rs,x5',x6',x7',C2,b2,s2,g,hl,e2⟩:=Xa (K:=K) (cs:=cs) (F:=F) (d2:=some (.od (P.map kN) (P.map fun k=>DB (G k)))) (d3:=some (.sh (sD k))) hw (F k) [] x5 x6 x7 C1 b1 hb1 (by omega) hf.gw ⟨fun r hr=>(nomatch hr),fun r hr=>(nomatch hr),fun r hr=>(nomatch hr)⟩ (by simp only [List.length_nil]; omega)
  have u2:=s2.up
  rw [List.length_nil] at hl
  refine ⟨[some (.sh (.ad j)),some (.sh (AN N F)),some (.od (P.map kN) (P.map fun k=>DB (G k))),some (.sh (sD k)),x4,x5,x6,x7,some (.mh C1)],[some (.sh (.ad j)),some (.sh (AN N F)),some (.od ((P ++ [k]).map kN) ((P ++ [k]).map fun z=>DB (Tg G k Rs z))),some (.sh (sD k)),some (.sh (.lst (Rs.map rD))),x5',x6',x7',some (.mh C2)],rfl,?_,Tg G k Rs,_,_,_,_,_,C2,b2,rfl,fun z hz=>?_,s2.NR,?_⟩
  ·have ga:Au (AN N F) (.str (S k))=some (DB (F k)):=JI hkA
   have hfo:AW (Ai 5) (AD (FD.e2 (Aa 1) (Aa 3) Au)) [1,3] (Ao (Eb 6)
  (Ao (DU 5 (Ai 7)
  (EL 6 (Aa 7) (FD.x2 (xP (FD.e2 (Aa 5) (Aa 7) Au)) (Az 8 (Ap K cs) (xP (Ab (Aa 0) (Ab (eC (.int 2)) Ag))) [0]) AV) [5,7]))
  (Du 4 (Aa 6) [6]))) [some (.sh (.ad j)),some (.sh (AN N F)),some (.od (P.map kN) (P.map fun k=>DB (G k))),some (.sh (.str (S k))),some (.ol []),x5,x6,x7,some (.mh C1)]=.ok .nx [some (.sh (.ad j)),some (.sh (AN N F)),some (.od (P.map kN) (P.map fun k=>DB (G k))),some (.sh (.str (S k))),some (.ol (Rs.map rD)),x5',x6',x7',some (.mh C2)]:=by
    rw [BY,CB]
    simp! [ga]
    exact e2
   have pk:=Gm hk
   have pv:=Xz hk G Rs
   have hlen:=NG eA hN
   unfold sD
   simp! [hfo,pk,pv,hlen,FD.EO]
  ·rcases List.mem_append.mp hz with hz | hz
   ·rw [TQ (show z≠k from fun e=>hk (e ▸ hz))]
    exact hG z hz
   ·rw [List.mem_singleton.mp hz,Ta]
    exact ⟨g,by omega,fun z=>by rw [z] at hl; exact hf.ne (List.eq_nil_of_length_eq_zero (by simp at hl; omega))⟩
  ·rw [List.length_append,List.length_singleton]; omega) N [] [some (.sh (.ad j)),some (.sh (AN N F)),some (.od [] []),none,none,none,none,none,some (.mh C)] rfl ⟨fun _=>[],none,none,none,none,none,C,bx,rfl,(fun k hk=>nomatch hk),hb,by simp⟩
 subst hρ
 refine ⟨G,C',bx',?_,hG,hb',by omega⟩
 have hf:=KJ (i:=1) (A:=N) (ρ:=[some (.sh (.ad j)),some (.sh (AN N F)),some (.od [] []),none,none,none,none,none,some (.mh C)]) rfl rfl e
 simp! [hf,EZ]
 rfl
theorem Zg{A B:List Kn}(ha:∀ k∈A,Nm k)(hb:∀ k∈B,Nm k):Lz (.tup (A.map sD)) (.tup (B.map sD))=some (decide (A=B)):=by
 have sh:∀ A:List Kn,(∀ k∈A,Nm k)→SeqAt.shaped (.tuple (A.map sP))=true:=fun A h=>by
  have h2:=K1 (g:=sP) (n:=0) (fun k=>by simp [sP,PyData.depth]) A
  unfold SeqAt.shaped
  rw [decide_eq_true (by rw [PyData.depth]; omega),Bool.and_true,PyData.canLay0]
  exact Je fun k hk=>Ww (h k hk)
 show Wu _ _=_
 unfold Wu Dt.py
 rw [EC (f:=sD) (g:=sP) A fun _ _=>rfl,EC (f:=sD) (g:=sP) B fun _ _=>rfl]
 simp only [Option.map_some,Option.bind_some]
 rw [if_pos ⟨sh A ha,sh B hb⟩,PyData.eqv,La Q3]
theorem jZ{A:List Kn}{f:Kn→List Row}(hA:A.length≤20){ρ:FD.Env}{fo:FD.Env→Out Dt}(h:fo ρ=.ok (Al cs A f)):SA (Gu K cs) (Ab fo Ag) ρ=.ok (.int (A.length:Nat)):=by
 unfold SA
 rw [GR,h]
 have el:List.lookup cs.c_Map (Gu K cs)=some (Eg K cs):=by simp [List.lookup]
 show (match List.lookup cs.c_Map (Gu K cs) with
  | some ψ=>Xr (ψ [Al cs A f])
  | none=>Out.bad)=_
 rw [el]
 simp only
 rw [lh]
 unfold Xr
 simp only
 rw [if_pos (by omega)]
theorem O6{N A:List Kn}{f R:Kn→List Row}{x3:Option Lo}:∀ (L:List Kn) (x:Option Lo),(∀ k∈L,k∈A∧k∈N∧Lr (R k)∧f k=nf (R k))→∃ x',Bm (Ai 4) (BR (Cb (FD.t1 (Mb (Bb K cs) true (Aa 4) (Aa 0)) AR) (AM (FD.t1 (Aj (DI K cs) (Ab (BM (ML K cs) "form" (Aa 0) (Ab (Aa 4) Ag)) (Ab (FD.e2 (Aa 1) (Aa 4) Au) Ag))) AR))) (AE (eC (.bl false)) []) Ar) (L.map sD) [some (.sh (Al cs A f)),some (.sh (AN N R)),some (.sh (.tup (A.map sD))),x3,x]=.ok .nx [some (.sh (Al cs A f)),some (.sh (AN N R)),some (.sh (.tup (A.map sD))),x3,x']
 | [],x,_=>⟨x,rfl⟩
 | k :: L,x,h=>by
  obtain ⟨hA,hN,hR,hf⟩:=h k List.mem_cons_self
  obtain ⟨x',e⟩:=O6 (x3:=x3) L (some (.sh (sD k))) fun z hz=>h z (List.mem_cons_of_mem _ hz)
  have t1:=SW (K:=K) (cs:=cs) (A:=A) (f:=f) (k:=k) (fa:=Aa 4) (fb:=Aa 0) (ρ:=[some (.sh (Al cs A f)),some (.sh (AN N R)),some (.sh (.tup (A.map sD))),x3,some (.sh (sD k))]) rfl rfl
  rw [decide_eq_true hA] at t1
  have t2:BM (ML K cs) "form" (Aa 0) (Ab (Aa 4) Ag) [some (.sh (Al cs A f)),some (.sh (AN N R)),some (.sh (.tup (A.map sD))),x3,some (.sh (sD k))]=.ok (tD (nf (R k))):=
   (NW (m:=Str.ofString "form") (ψ:=Gi K cs) (fo:=Aa 0) (fs:=Ab (Aa 4) Ag) (C:=cs.c_Map) (as:=[sD k]) rfl (by decide) rfl).trans (by rw [← hf]; exact hT f hA)
  have ga:Au (AN N R) (sD k)=some (DB (R k)):=JI hN
  have t3:DI K cs [tD (nf (R k)),DB (R k)]=.ok (.bl true):=Yk hR
  refine ⟨x',?_⟩
  rw [List.map_cons,BX]
  simp! [t1,t2,ga,t3,e]
theorem Tw{N A:List Kn}{f R:Kn→List Row}(hA:As A)(eA:kO.sort N=A)(hm:∀ k∈A,Nm k)(h:∀ k∈A,Lr (R k)∧f k=nf (R k)):BG K cs [Al cs A f,AN N R]=.ok (.bl true):=by
 have ed:BG K cs [Al cs A f,AN N R]=AB 5 (Hu K cs) [Al cs A f,AN N R]:=AJ rfl
 rw [ed]
 unfold Hu
 have hAN:∀ k∈A,k∈N:=fun k hk=>(kO.CC N).mem_iff.mp (by rw [eA]; exact hk)
 obtain ⟨x',e⟩:=O6 (K:=K) (cs:=cs) (N:=N) (A:=A) (f:=f) (R:=R) (x3:=some (.sh (.tup (A.map sD)))) A none fun k hk=>⟨hk,hAN k hk,(h k hk).1,(h k hk).2⟩
 have gk:=W8 N R
 have hn:BM (Bk K cs) "names" (Aa 0) Ag [some (.sh (Al cs A f)),some (.sh (AN N R)),some (.sh (.tup (A.map sD))),none,none]=.ok (.tup (A.map sD)):=Fp rfl
 have hl:SA (Gu K cs) (Ab (Aa 0) Ag) [some (.sh (Al cs A f)),some (.sh (AN N R)),some (.sh (.tup (A.map sD))),some (.sh (.tup (A.map sD))),none]=.ok (.int (A.length:Nat)):=jZ hA.l rfl
 have q1:Q4 (.tup (A.map sD)) (.tup (A.map sD))=some false:=by
  have:=WB (Zg hm hm)
  rw [decide_eq_true rfl] at this
  exact this
 have gl:CI [.tup (A.map sD)]=some (.int (A.length:Nat)):=by rw [M3,List.length_map]
 have hf:AW (Ai 4) (AD (Aa 2)) [2] (BR (Cb (FD.t1 (Mb (Bb K cs) true (Aa 4) (Aa 0)) AR) (AM (FD.t1 (Aj (DI K cs) (Ab (BM (ML K cs) "form" (Aa 0) (Ab (Aa 4) Ag)) (Ab (FD.e2 (Aa 1) (Aa 4) Au) Ag))) AR))) (AE (eC (.bl false)) []) Ar) [some (.sh (Al cs A f)),some (.sh (AN N R)),some (.sh (.tup (A.map sD))),some (.sh (.tup (A.map sD))),none]=.ok .nx [some (.sh (Al cs A f)),some (.sh (AN N R)),some (.sh (.tup (A.map sD))),some (.sh (.tup (A.map sD))),x']:=e
 have hz:∀ (lk:List Nat) (ρ:FD.Env),lk.all (G0 ρ)=true→AQ (.tup (A.map sD)) lk ρ=ρ:=fun lk ρ h=>Ek h
 have hb:((A.length:Int) == (A.length:Int))=true:=beq_self_eq_true _
 simp! [Ko,gk,J7,eA,hn,q1,hl,gl,hb,hf]
theorem Vi{N:List Kn}{F:Kn→List Row}{P:Row}{pt:Kn→Int}(nd:N.Nodup)(hN:N.length≤20)(hF:∀ k∈N,Lr (F k))(sub:∀ k∈N,∀ r∈F k,∀ j∈ks r,gt P j=some (pt j)):FR K cs [AN N F,rD P]=.ok (rD (DJ N F pt)):=by
 have ed:FR K cs [AN N F,rD P]=AB 6 (Hw K cs) [AN N F,rD P]:=AJ rfl
 rw [ed]
 unfold Hw
 obtain ⟨x',e⟩:=DZ (u:=Ai 3) (b:=(A8 2 (Aa 3) (eB Lw (Ab (eL (EA (Ai 4) [4] AI (eB Gb (Ab (eL (JC 4 (Ai 5) [5] AI (FD.e2 (FD.e2 (Aa 1) (Aa 5) Au) (FD.e2 (Aa 4) (Aa 5) Au) AV))) Ag)) (AD (FD.e2 (Aa 0) (Aa 3) Au)) [0,3])) Ag)) [])) (mk:=fun Q x=>[some (.sh (AN N F)),some (.sh (rD P)),some (.od (Q.map kN) (Q.map fun k=>.int (vl (F k) pt))),x,none,none]) nd (fun Q k L x eA hk hkA=>by
  refine ⟨[some (.sh (AN N F)),some (.sh (rD P)),some (.od (Q.map kN) (Q.map fun k=>.int (vl (F k) pt))),some (.sh (sD k)),none,none],some (.sh (sD k)),rfl,?_⟩
  have ga:Au (AN N F) (sD k)=some (DB (F k)):=JI hkA
  have h:=hF k hkA
  have hi:EA (Ai 4) [4] AI (eB Gb (Ab (eL (JC 4 (Ai 5) [5] AI (FD.e2 (FD.e2 (Aa 1) (Aa 5) Au) (FD.e2 (Aa 4) (Aa 5) Au) AV))) Ag)) (AD (FD.e2 (Aa 0) (Aa 3) Au)) [0,3] [some (.sh (AN N F)),some (.sh (rD P)),some (.od (Q.map kN) (Q.map fun k=>.int (vl (F k) pt))),some (.sh (sD k)),none,none]=.ok ((F k).map fun r=>.int (mx r pt)):=by
   refine CM (e:=rD) (by rw [CB]; simp! [ga]; rfl) (by have:=h.l; omega) fun r hr=>⟨[some (.sh (AN N F)),some (.sh (rD P)),some (.od (Q.map kN) (Q.map fun k=>.int (vl (F k) pt))),some (.sh (sD k)),some (.sh (rD r)),none],rfl,?_⟩
   have hc:JC 4 (Ai 5) [5] AI (FD.e2 (FD.e2 (Aa 1) (Aa 5) Au) (FD.e2 (Aa 4) (Aa 5) Au) AV) [some (.sh (AN N F)),some (.sh (rD P)),some (.od (Q.map kN) (Q.map fun k=>.int (vl (F k) pt))),some (.sh (sD k)),some (.sh (rD r)),none]=.ok (r.map fun p=>.int (pt p.1 + p.2)):=by
    refine PL (r:=r) rfl (by have:=h.r r hr; omega) fun p hp=>⟨[some (.sh (AN N F)),some (.sh (rD P)),some (.od (Q.map kN) (Q.map fun k=>.int (vl (F k) pt))),some (.sh (sD k)),some (.sh (rD r)),some (.sh (sD p.1))],rfl,?_⟩
    have g1:Au (rD r) (sD p.1)=some (.int p.2):=by
     have:=T4 r p.1
     rw [JH (h.nd r hr) hp] at this
     exact this
    have g2:Au (rD P) (sD p.1)=some (.int (pt p.1)):=by
     have:=T4 P p.1
     rw [sub k hkA r hr p.1 (Eu hp)] at this
     exact this
    simp! [g1,g2]
   simp! [hc,JZ (fun p:Kn × Int=>pt p.1 + p.2) (h.nn r hr)]
   rfl
  have pk:=Gm hk
  have pv:Df (Q.map kN) (Q.map fun k=>.int (vl (F k) pt)) (Sum.inr (S k)) (.int (QG ((F k).map fun r=>mx r pt)))=(Q ++ [k]).map fun k=>.int (vl (F k) pt):=Hf hk fun k=>.int (vl (F k) pt)
  have hlen:=NG eA hN
  unfold sD at ga hi ⊢
  simp! [hi,VD (fun r:Row=>mx r pt) h.ne,pk,pv,hlen]) N [] none rfl
 have hf:=KJ (i:=0) (A:=N) (ρ:=[some (.sh (AN N F)),some (.sh (rD P)),some (.od [] []),none,none,none]) rfl rfl e
 rw [bE]
 simp! [hf,EZ]
theorem QE{j:Nat}{N:List Kn}:∀ (L:List Kn) (P:Row) (x:Option Lo) (C:List Cell) (b:Bx),C[j]? = some (JF b)→b.n + L.length≤900000000→P.length + L.length≤1000→(ks P ++ L).Nodup →
  ∃ (P':Row) (x':Option Lo) (C':List Cell) (b':Bx),At C C' j b b' L.length∧ks P'=ks P ++ L∧Bm (Ai 3) (EL 2 (Aa 3) (FD.x2 (Az 4 (Ap K cs) (xP (Ab (Aa 0) (Ab (eC (.int 61)) Ag))) [0]) (xP (eC (.int 30))) (OL (· - ·))) []) (L.map sD) [some (.sh (.ad j)),some (.sh (.lst (N.map sD))),some (.od (Cc P) (D7 P)),x,some (.mh C)]=.ok .nx [some (.sh (.ad j)),some (.sh (.lst (N.map sD))),some (.od (Cc P') (D7 P')),x',some (.mh C')]
 | [],P,x,C,b,hb,_,_,_=>⟨P,x,C,b,At.refl hb,(List.append_nil _).symm,rfl⟩
 | k :: L,P,x,C,b,hb,hn,hl,nd=>by
  simp only [List.length_cons] at hn hl
  obtain ⟨v,C1,b1,t1,v0,v1,s1⟩:=Jq (K:=K) (cs:=cs) hb (by omega) (s:=61) (by decide) (by decide)
  have u1:=s1.up
  have hk:k∉ks P:=fun z=>(List.nodup_append.mp nd).2.2 k z k List.mem_cons_self rfl
  have hks:ks (Dl P k (v - 30))=ks P ++ [k]:=by rw [NN,if_neg hk]
  have lp:=Lc P k (v - 30)
  obtain ⟨P',x',C',b',s2,hP,e⟩:=QE (N:=N) L (Dl P k (v - 30)) (some (.sh (sD k))) C1 b1 s1.NR (by omega) (by omega) (by rw [hks,List.append_assoc]; exact nd)
  refine ⟨P',x',C',b',(s1.trans s2).mono (by rw [List.length_cons]; omega),by rw [hP,hks,List.append_assoc]; rfl,?_⟩
  have hf:(FD.x2 (Az 4 (Ap K cs) (xP (Ab (Aa 0) (Ab (eC (.int 61)) Ag))) [0]) (xP (eC (.int 30))) (OL (· - ·))) [some (.sh (.ad j)),some (.sh (.lst (N.map sD))),some (.od (Cc P) (D7 P)),some (.sh (sD k)),some (.mh C)]=.ok (.int (v - 30)) [some (.sh (.ad j)),some (.sh (.lst (N.map sD))),some (.od (Cc P) (D7 P)),some (.sh (sD k)),some (.mh C1)]:=by
   simp! [t1]
  have hp:(EL 2 (Aa 3) (FD.x2 (Az 4 (Ap K cs) (xP (Ab (Aa 0) (Ab (eC (.int 61)) Ag))) [0]) (xP (eC (.int 30))) (OL (· - ·))) []) [some (.sh (.ad j)),some (.sh (.lst (N.map sD))),some (.od (Cc P) (D7 P)),some (.sh (sD k)),some (.mh C)]=.ok .nx [some (.sh (.ad j)),some (.sh (.lst (N.map sD))),some (.od (Cc (Dl P k (v - 30))) (D7 (Dl P k (v - 30)))),some (.sh (sD k)),some (.mh C1)]:=km (k:=k) hf rfl rfl (by omega)
  rw [List.map_cons,BX]
  simp! [hp,e]
theorem bt{j:Nat}{N:List Kn}{C:List Cell}{b:Bx}(hb:C[j]? = some (JF b))(hn:b.n≤100000000)(nd:N.Nodup)(hN:N.length≤20):∃ (P:Row) (C':List Cell),D0 K cs [.ad j,.lst (N.map sD)] C=.ok (rD P) C'∧ks P=N.reverse:=by
 have ed:D0 K cs [.ad j,.lst (N.map sD)] C=runM 4 (D8 K cs) [.ad j,.lst (N.map sD)] C:=GA rfl
 rw [ed]
 unfold D8
 obtain ⟨P,x,C',b',s,hP,e⟩:=QE (K:=K) (cs:=cs) (j:=j) (N:=N) N.reverse [] none C b hb (by rw [List.length_reverse]; omega) (by rw [List.length_reverse,List.length_nil]; omega) (by rw [show ks ([]:Row)=[] from rfl,List.nil_append]; exact (List.reverse_perm N).nodup_iff.mpr nd)
 refine ⟨P,C',?_,hP⟩
 have hf:AW (Ai 3) (AD (eL (cw (Aa 1)))) [1] (EL 2 (Aa 3) (FD.x2 (Az 4 (Ap K cs) (xP (Ab (Aa 0) (Ab (eC (.int 61)) Ag))) [0]) (xP (eC (.int 30))) (OL (· - ·))) []) [some (.sh (.ad j)),some (.sh (.lst (N.map sD))),some (.od [] []),none,some (.mh C)]=.ok .nx [some (.sh (.ad j)),some (.sh (.lst (N.map sD))),some (.od (Cc P) (D7 P)),x,some (.mh C')]:=by
  rw [BY]
  simp! [K4,HB]
  rw [← List.map_reverse]
  exact e
 simp! [hf,EZ]
 rfl
theorem Z7(A:List Kn)(f:Kn→List Row)(pt:Kn→Int):ks (DJ A f pt)=A:=by
 unfold ks DJ
 rw [List.map_map]
 exact List.map_id _
theorem QU{A:List Kn}(nd:A.Nodup)(f:Kn→List Row)(pt:Kn→Int){k:Kn}(hk:k∈A):gt (DJ A f pt) k=some (vl (f k) pt):=JH (by rw [Z7]; exact nd) (List.mem_map.mpr ⟨k,hk,rfl⟩)
theorem VX{A B:List Kn}(ha:∀ k∈A,Nm k)(hb:∀ k∈B,Nm k):Lz (.lst (A.map sD)) (.lst (B.map sD))=some (decide (A=B)):=by
 have sh:∀ A:List Kn,(∀ k∈A,Nm k)→SeqAt.shaped (.list (A.map sP))=true:=fun A h=>by
  have h2:=K1 (g:=sP) (n:=0) (fun k=>by simp [sP,PyData.depth]) A
  unfold SeqAt.shaped
  rw [decide_eq_true (by rw [PyData.depth]; omega),Bool.and_true,PyData.canLay0]
  exact Je fun k hk=>Ww (h k hk)
 show Wu _ _=_
 unfold Wu Dt.py
 rw [EC (f:=sD) (g:=sP) A fun _ _=>rfl,EC (f:=sD) (g:=sP) B fun _ _=>rfl]
 simp only [Option.map_some,Option.bind_some]
 rw [if_pos ⟨sh A ha,sh B hb⟩,PyData.eqv,La Q3]
theorem jo{P:Row}(h:Yd P):Lz (.lst (P.map Jb)) (.lst (P.map Jb))=some true:=by
 have sh:SeqAt.shaped (Ze P)=true:=by
  have h1:=K1 (g:=pP) (n:=1) (fun p=>by rw [WD]; exact Nat.le_refl _) P
  unfold SeqAt.shaped Ze
  rw [decide_eq_true (by rw [PyData.depth]; omega),Bool.and_true,PyData.canLay0]
  exact Je fun p hp=>Wr (h p hp)
 show Wu (du P) (du P)=_
 unfold Wu
 rw [jH]
 simp only [Option.bind_some]
 rw [if_pos ⟨sh,sh⟩,fL,decide_eq_true rfl]
theorem js{α:Type}(l:List α):U7 [.lst (l.map fun _=>.bl true)]=some (.bl true):=by
 have e:(l.map fun _=>Dt.bl true)=(l.map fun _=>true).map .bl:=by rw [List.map_map]; rfl
 unfold U7
 simp only
 rw [e,QN,Option.map_some,List.all_map]
 simp
theorem ip{A:List Kn}{f:Kn→List Row}{ρ:FD.Env}{fo fp:FD.Env→Out Dt}{d:Dt}{r:Out Dt}(h:fo ρ=.ok (Al cs A f))(hp:fp ρ=.ok d)(e:Dj K cs [Al cs A f,d]=r):RN (CV K cs) fo (Ab fp Ag) ρ=r:=by
 unfold RN
 rw [h,Out.AA]
 have el:List.lookup cs.c_Map (CV K cs)=some (Dj K cs):=by simp [List.lookup]
 show (match List.lookup cs.c_Map (CV K cs) with
  | some ψ=>(Ab fp Ag ρ).bind fun as=>ψ (Al cs A f :: as)
  | none=>Out.bad)=_
 rw [el]
 simp only
 rw [GR,hp]
 exact e
theorem Xh{N A:List Kn}{f:Kn→List Row}{b w:Nat}{P D:Row}{pt:Kn→Int}(hA:As A)(eA:kO.sort N=A)(nd:N.Nodup)(hN:N.length≤20)(hm:∀ k∈A,Nm k)(hf:Mp A f b w)(hb:b≤200)(hP:∀ k∈A,gt P k=some (pt k))(hPm:Yd P)(hD:ks D=N)(hv:∀ p∈D,p.2=vl (f p.1) pt):FY K cs [Al cs A f,rD P,rD D]=.ok (.bl true):=by
 have ed:FY K cs [Al cs A f,rD P,rD D]=AB 6 (Hq K cs) [Al cs A f,rD P,rD D]:=AJ rfl
 rw [ed]
 unfold Hq
 have hAN:∀ k∈N,k∈A:=fun k hk=>by rw [← eA]; exact (kO.CC N).mem_iff.mpr hk
 have nD:(ks D).Nodup:=by rw [hD]; exact nd
 have t:=V6 (K:=K) (cs:=cs) hA hf hb hP
 have gi:EM [rD (DJ A f pt),.ty "dict"]=some (.bl true):=rfl
 have g1:Cg [rD (DJ A f pt)]=some (A.map sD):=by
  show some ((Cc (DJ A f pt)).map IW)=_
  rw [Jj,Z7]
 have g2:Cg [rD D]=some (N.map sD):=by
  show some ((Cc D).map IW)=_
  rw [Jj,hD]
 have q1:Q4 (.lst (A.map sD)) (.lst (A.map sD))=some false:=by
  have:=WB (VX hm hm)
  rw [decide_eq_true rfl] at this
  exact this
 have q2:Q4 (.lst (P.map Jb)) (.lst (P.map Jb))=some false:=WB (jo hPm)
 have hc:JC 2 (Ai 5) [5] AI (OJ (Aj (Bz K cs) (Ab (FD.e2 (Aa 4) (Aa 5) Au) Ag)) (eT (FD.t2 (FD.e2 (Aa 4) (Aa 5) Au) (FD.e2 (Aa 2) (Aa 5) Au) Lz))) [some (.sh (Al cs A f)),some (.sh (rD P)),some (.sh (rD D)),some (.sh (.lst (P.map Jb))),some (.sh (rD (DJ A f pt))),none]=.ok (D.map fun _=>.bl true):=by
  refine PL (r:=D) rfl (by have:(ks D).length=D.length:=List.length_map _; rw [hD] at this; omega) fun p hp=>⟨[some (.sh (Al cs A f)),some (.sh (rD P)),some (.sh (rD D)),some (.sh (.lst (P.map Jb))),some (.sh (rD (DJ A f pt))),some (.sh (sD p.1))],rfl,?_⟩
  have ga:Au (rD (DJ A f pt)) (sD p.1)=some (.int p.2):=by
   have:=T4 (DJ A f pt) p.1
   rw [QU hA.nd f pt (hAN p.1 (by rw [← hD]; exact Eu hp)),← hv p hp] at this
   exact this
  have gb:Au (rD D) (sD p.1)=some (.int p.2):=by
   have:=T4 D p.1
   rw [JH nD hp] at this
   exact this
  simp! [ga,gb,Su,beq_self_eq_true]
 have hca:RN (CV K cs) (Aa 0) (Ab (Aa 1) Ag) [some (.sh (Al cs A f)),some (.sh (rD P)),some (.sh (rD D)),some (.sh (.lst (P.map Jb))),none,none]=.ok (rD (DJ A f pt)):=ip rfl rfl t
 have hz:∀ (lk:List Nat) (ρ:FD.Env),lk.all (G0 ρ)=true→AQ (rD (DJ A f pt)) lk ρ=ρ:=fun lk ρ h=>Ek h
 have hi1:Kc (Aa 1) [some (.sh (Al cs A f)),some (.sh (rD P)),some (.sh (rD D)),none,none,none]=.ok (P.map Jb):=by
  simp! [NS,items]
 have hi2:Kc (Aa 1) [some (.sh (Al cs A f)),some (.sh (rD P)),some (.sh (rD D)),some (.sh (.lst (P.map Jb))),some (.sh (rD (DJ A f pt))),none]=.ok (P.map Jb):=by
  simp! [NS,items]
 simp! [hi1,hi2,hca,gi,Ko,g1,g2,J7,eA,q1,q2,hc,js,FD.EO]
theorem XC(a b:Bool):D5 K cs [.bl a,.bl b]=.ok (.bl (a == b)):=by
 have ed:D5 K cs [.bl a,.bl b]=AB 2 (Hi K cs) [.bl a,.bl b]:=AJ rfl
 rw [ed]
 unfold Hi
 simp! []
theorem Xm{N:List Kn}{F G:Kn→List Row}{k:Kn}(hk:k∈N)(hF:∀ r∈F k,(ks r).Nodup)(hl:(F k).length≤1000):∀ (L:List Row) (x:Option Lo),(∃ x',GX (F k) L=true∧Bm (Ai 3) (BR (AM (FD.t1 (eB JV (Ab (eL (EA (Ai 4) [4] AI (Aj (AO K cs) (Ab (Aa 4) (Ab (Aa 3) Ag))) (AD (FD.e2 (Aa 0) (Aa 2) Au)) [0,2])) Ag)) AR)) (AE (GZ (Ab (Aa 2) (Ab (Aa 3) Ag))) [2,3]) Ar) (L.map rD) [some (.sh (AN N F)),some (.sh (AN N G)),some (.sh (sD k)),x,none]=.ok .nx [some (.sh (AN N F)),some (.sh (AN N G)),some (.sh (sD k)),x',none]) ∨
  ∃ s ρ',s∈L∧((F k).any fun o=>Bj o s)=false∧Bm (Ai 3) (BR (AM (FD.t1 (eB JV (Ab (eL (EA (Ai 4) [4] AI (Aj (AO K cs) (Ab (Aa 4) (Ab (Aa 3) Ag))) (AD (FD.e2 (Aa 0) (Aa 2) Au)) [0,2])) Ag)) AR)) (AE (GZ (Ab (Aa 2) (Ab (Aa 3) Ag))) [2,3]) Ar) (L.map rD) [some (.sh (AN N F)),some (.sh (AN N G)),some (.sh (sD k)),x,none]=.ok (.rt (.tup [sD k,rD s])) ρ'
 | [],x=>.inl ⟨x,rfl,rfl⟩
 | s :: L,x=>by
  have ga:Au (AN N F) (sD k)=some (DB (F k)):=JI hk
  have hi:EA (Ai 4) [4] AI (Aj (AO K cs) (Ab (Aa 4) (Ab (Aa 3) Ag))) (AD (FD.e2 (Aa 0) (Aa 2) Au)) [0,2] [some (.sh (AN N F)),some (.sh (AN N G)),some (.sh (sD k)),some (.sh (rD s)),none]=.ok ((F k).map fun o=>.bl (Bj o s)):=by
   refine CM (e:=rD) (by rw [CB]; simp! [ga]; rfl) (by omega) fun o ho=>⟨[some (.sh (AN N F)),some (.sh (AN N G)),some (.sh (sD k)),some (.sh (rD s)),some (.sh (rD o))],rfl,?_⟩
   have t:=QY (K:=K) (cs:=cs) s (hF o ho)
   simp! [t]
  have gn:=bM (fun o=>Bj o s) (F k)
  rw [List.map_cons,BX]
  cases hb:(F k).any fun o=>Bj o s with
  | false=>
   rw [hb] at gn
   refine .inr ⟨s,[some (.sh (AN N F)),some (.sh (AN N G)),some (.sh (sD k)),some (.sh (rD s)),none],List.mem_cons_self,hb,?_⟩
   simp! [hi,gn]
  | true=>
   rw [hb] at gn
   rcases Xm (F:=F) (G:=G) hk hF hl L (some (.sh (rD s))) with ⟨x',hd,e⟩ | ⟨s',ρ',hs,hn,e⟩
   ·refine .inl ⟨x',?_,?_⟩
    ·show (((F k).any fun o=>Bj o s) && GX (F k) L)=true
     rw [hb,hd]
     rfl
    ·simp! [hi,gn,e]
   ·refine .inr ⟨s',ρ',List.mem_cons_of_mem _ hs,hn,?_⟩
    simp! [hi,gn,e]
theorem Vd{N:List Kn}{F G:Kn→List Row}(hF:∀ k∈N,∀ r∈F k,(ks r).Nodup)(hl:∀ k∈N,(F k).length≤1000):∀ (L:List Kn) (x y:Option Lo),(∀ k∈L,k∈N)→(∃ x' y',(∀ k∈L,GX (F k) (G k)=true)∧Bm (Ai 2) (AW (Ai 3) (AD (FD.e2 (Aa 1) (Aa 2) Au)) [1,2]
  (BR (AM (FD.t1 (eB JV (Ab (eL (EA (Ai 4) [4] AI (Aj (AO K cs) (Ab (Aa 4) (Ab (Aa 3) Ag))) (AD (FD.e2 (Aa 0) (Aa 2) Au)) [0,2])) Ag)) AR)) (AE (GZ (Ab (Aa 2) (Ab (Aa 3) Ag))) [2,3]) Ar)) (L.map sD) [some (.sh (AN N F)),some (.sh (AN N G)),x,y,none]=.ok .nx [some (.sh (AN N F)),some (.sh (AN N G)),x',y',none]) ∨
  ∃ k s ρ',k∈N∧s∈G k∧((F k).any fun o=>Bj o s)=false∧Bm (Ai 2) (AW (Ai 3) (AD (FD.e2 (Aa 1) (Aa 2) Au)) [1,2]
  (BR (AM (FD.t1 (eB JV (Ab (eL (EA (Ai 4) [4] AI (Aj (AO K cs) (Ab (Aa 4) (Ab (Aa 3) Ag))) (AD (FD.e2 (Aa 0) (Aa 2) Au)) [0,2])) Ag)) AR)) (AE (GZ (Ab (Aa 2) (Ab (Aa 3) Ag))) [2,3]) Ar)) (L.map sD) [some (.sh (AN N F)),some (.sh (AN N G)),x,y,none]=.ok (.rt (.tup [sD k,rD s])) ρ'
 | [],x,y,_=>.inl ⟨x,y,(fun k hk=>nomatch hk),rfl⟩
 | k :: L,x,y,h=>by
  have hk:=h k List.mem_cons_self
  have gb:Au (AN N G) (sD k)=some (DB (G k)):=JI hk
  have hfo:AW (Ai 3) (AD (FD.e2 (Aa 1) (Aa 2) Au)) [1,2] (BR (AM (FD.t1 (eB JV (Ab (eL (EA (Ai 4) [4] AI (Aj (AO K cs) (Ab (Aa 4) (Ab (Aa 3) Ag))) (AD (FD.e2 (Aa 0) (Aa 2) Au)) [0,2])) Ag)) AR)) (AE (GZ (Ab (Aa 2) (Ab (Aa 3) Ag))) [2,3]) Ar) [some (.sh (AN N F)),some (.sh (AN N G)),some (.sh (sD k)),y,none]=Bm (Ai 3) (BR (AM (FD.t1 (eB JV (Ab (eL (EA (Ai 4) [4] AI (Aj (AO K cs) (Ab (Aa 4) (Ab (Aa 3) Ag))) (AD (FD.e2 (Aa 0) (Aa 2) Au)) [0,2])) Ag)) AR)) (AE (GZ (Ab (Aa 2) (Ab (Aa 3) Ag))) [2,3]) Ar) ((G k).map rD) [some (.sh (AN N F)),some (.sh (AN N G)),some (.sh (sD k)),y,none]:=by
   rw [BY,CB]
   simp! [gb]
   rfl
  rcases Xm (K:=K) (cs:=cs) (F:=F) (G:=G) hk (hF k hk) (hl k hk) (G k) y with ⟨y1,hd,e1⟩ | ⟨s,ρ1,hs,hn,e1⟩
  ·rw [e1] at hfo
   rcases Vd hF hl L (some (.sh (sD k))) y1 fun z hz=>h z (List.mem_cons_of_mem _ hz) with ⟨x',y',hd',e⟩ | ⟨k',s,ρ',hk',hs,hn,e⟩
   ·refine .inl ⟨x',y',fun z hz=>(List.mem_cons.mp hz).elim (fun e=>by rw [e]; exact hd) (hd' z),?_⟩
    rw [List.map_cons,BX]
    simp! [hfo,e]
   ·refine .inr ⟨k',s,ρ',hk',hs,hn,?_⟩
    rw [List.map_cons,BX]
    simp! [hfo,e]
  ·rw [e1] at hfo
   refine .inr ⟨k,s,ρ1,hk,hs,hn,?_⟩
   rw [List.map_cons,BX]
   simp! [hfo]
theorem YM{i:Nat}{u:Dt→FD.Env→Option FD.Env}{b:FD.Env→SOut}{ρ ρ':FD.Env}{A:List Kn}{vs:List Dt}{d:Dt}(hi:ρ[i]? = some (some (.sh (.dic (A.map kN) vs))))(hl:frz [i] ρ=ρ)(h:Bm u b (A.map sD) ρ=.ok (.rt d) ρ'):DU i u b ρ=.ok (.rt d) ρ':=KJ hi hl h
theorem YT{N:List Kn}{F G:Kn→List Row}(hF:∀ k∈N,∀ r∈F k,(ks r).Nodup)(hl:∀ k∈N,(F k).length≤1000):
  ((∀ k∈N,GX (F k) (G k)=true)∧Ep K cs [AN N F,AN N G]=.ok (.tup [.str "",.dic [] []])) ∨
  ∃ k s,k∈N∧s∈G k∧((F k).any fun o=>Bj o s)=false∧Ep K cs [AN N F,AN N G]=.ok (.tup [sD k,rD s]):=by
 have ed:Ep K cs [AN N F,AN N G]=AB 5 (FH K cs) [AN N F,AN N G]:=AJ rfl
 rw [ed]
 unfold FH
 rcases Vd (K:=K) (cs:=cs) hF hl N none none fun _ h=>h with ⟨x',y',hd,e⟩ | ⟨k,s,ρ',hk,hs,hn,e⟩
 ·refine .inl ⟨hd,?_⟩
  have hf:=KJ (i:=0) (A:=N) (ρ:=[some (.sh (AN N F)),some (.sh (AN N G)),none,none,none]) rfl rfl e
  simp! [hf]
 ·refine .inr ⟨k,s,hk,hs,hn,?_⟩
  have hf:=YM (i:=0) (A:=N) (ρ:=[some (.sh (AN N F)),some (.sh (AN N G)),none,none,none]) rfl rfl e
  simp! [hf]
def ab(x:Int):Int:=if x < 0 then -x else x
theorem hJ{i:Nat}{u:Dt→FD.Env→Option FD.Env}{vs:List Nat}{f:FD.Env→Out Dt}{ρ:FD.Env}{A:List Kn}{ds:List Dt}{g:Kn→Dt}(hi:ρ[i]? = some (some (.sh (.dic (A.map kN) ds))))(hl:A.length≤16777216)(h:∀ k∈A,∃ ρ1,u (sD k) (BJ (frz [i] ρ) vs)=some ρ1∧f ρ1=.ok (g k)):
  JC i u vs AI f ρ=.ok (A.map g):=by
 have e:CO i ρ=.ok (A.map sD):=by
  unfold CO
  rw [hi]
  show Out.ok ((A.map kN).map IW)=_
  rw [WL]
 unfold JC
 rw [CM (e:=sD) (g:=g) e hl h]
theorem fX{N:List Kn}{F:Kn→List Row}(hN:N.length≤20)(h0:N≠[])(hF:∀ k∈N,Lr (F k)):∃ M:Int,Ca K cs [AN N F]=.ok (.int M)∧∀ k∈N,∀ r∈F k,∀ p∈r,0 < M + p.2∧0 < M:=by
 have ed:Ca K cs [AN N F]=AB 4 (Jf K cs) [AN N F]:=AJ rfl
 rw [ed]
 unfold Jf
 refine ⟨1 + Fy (N.map fun k=>Fy ((F k).map fun r=>Fy (r.map fun p=>ab p.2))),?_,fun k hk r hr p hp=>?_⟩
 ·have hc:(JC 0 (Ai 1) [1] AI (eB Gb (Ab (eL (EA (Ai 2) [2] AI (eB Gb (Ab (eL (JC 2 (Ai 3) [3] AI (eB Ra (Ab (FD.e2 (Aa 2) (Aa 3) Au) Ag)))) Ag)) (AD (FD.e2 (Aa 0) (Aa 1) Au)) [0,1])) Ag))) [some (.sh (AN N F)),none,none,none]=.ok (N.map fun k=>.int (Fy ((F k).map fun r=>Fy (r.map fun p=>ab p.2)))):=by
   refine hJ (A:=N) rfl (by omega) fun k hk=>⟨[some (.sh (AN N F)),some (.sh (sD k)),none,none],rfl,?_⟩
   have h:=hF k hk
   have ga:Au (AN N F) (sD k)=some (DB (F k)):=JI hk
   have hi:(EA (Ai 2) [2] AI (eB Gb (Ab (eL (JC 2 (Ai 3) [3] AI (eB Ra (Ab (FD.e2 (Aa 2) (Aa 3) Au) Ag)))) Ag)) (AD (FD.e2 (Aa 0) (Aa 1) Au)) [0,1]) [some (.sh (AN N F)),some (.sh (sD k)),none,none]=.ok ((F k).map fun r=>.int (Fy (r.map fun p=>ab p.2))):=by
    refine CM (e:=rD) (by rw [CB]; simp! [ga]; rfl) (by have:=h.l; omega) fun r hr=>⟨[some (.sh (AN N F)),some (.sh (sD k)),some (.sh (rD r)),none],rfl,?_⟩
    have hj:JC 2 (Ai 3) [3] AI (eB Ra (Ab (FD.e2 (Aa 2) (Aa 3) Au) Ag)) [some (.sh (AN N F)),some (.sh (sD k)),some (.sh (rD r)),none]=.ok (r.map fun p=>.int (ab p.2)):=by
     refine PL (r:=r) rfl (by have:=h.r r hr; omega) fun p hp=>⟨[some (.sh (AN N F)),some (.sh (sD k)),some (.sh (rD r)),some (.sh (sD p.1))],rfl,?_⟩
     have g1:Au (rD r) (sD p.1)=some (.int p.2):=by
      have:=T4 r p.1
      rw [JH (h.nd r hr) hp] at this
      exact this
     simp! [g1]
     rfl
    simp! [hj,JZ (fun p:Kn × Int=>ab p.2) (h.nn r hr)]
   simp! [hi,JZ (fun r:Row=>Fy (r.map fun p=>ab p.2)) h.ne]
  simp! [hc,JZ (fun k:Kn=>Fy ((F k).map fun r=>Fy (r.map fun p=>ab p.2))) h0]
 ·have h:=hF k hk
  have m1:=(HC (l:=r.map fun p=>ab p.2) (by simpa using h.nn r hr)).2 _ (List.mem_map.mpr ⟨p,hp,rfl⟩)
  have m2:=(HC (l:=(F k).map fun r=>Fy (r.map fun p=>ab p.2)) (by simpa using h.ne)).2 _ (List.mem_map.mpr ⟨r,hr,rfl⟩)
  have m3:=(HC (l:=N.map fun k=>Fy ((F k).map fun r=>Fy (r.map fun p=>ab p.2))) (by simpa using h0)).2 _ (List.mem_map.mpr ⟨k,hk,rfl⟩)
  have m2:Fy (r.map fun p=>ab p.2)≤Fy ((F k).map fun r=>Fy (r.map fun p=>ab p.2)):=m2
  have m3:Fy ((F k).map fun r=>Fy (r.map fun p=>ab p.2))≤Fy (N.map fun k=>Fy ((F k).map fun r=>Fy (r.map fun p=>ab p.2))):=m3
  unfold ab at *
  split at m1 <;> omega
theorem PV{ψ:List Dt→Out Dt}{fa fb:FD.Env→Out Dt}{ρ:FD.Env}{A:List Kn}{f g:Kn→List Row}{r:Out Dt}(ha:fa ρ=.ok (Al cs A f))(hb:fb ρ=.ok (Al cs A g))(e:ψ [Al cs A f,Al cs A g]=r):AS [(cs.c_Map,ψ)] fa fb ρ=r:=by
 unfold AS
 rw [ha,Out.AA,hb,Out.AA]
 have el:List.lookup cs.c_Map [(cs.c_Map,ψ)]=some ψ:=by simp [List.lookup]
 show (if cs.c_Map=cs.c_Map then (match List.lookup cs.c_Map [(cs.c_Map,ψ)] with
  | some ψ=>ψ [Al cs A f,Al cs A g]
  | none=>Out.bad) else Out.bad)=_
 rw [if_pos rfl,el]
 exact e
theorem eO{fa fb:FD.Env→Out Dt}{ρ:FD.Env}{A:List Kn}{f g:Kn→List Row}{b:Bool}(ha:fa ρ=.ok (Al cs A f))(hb:fb ρ=.ok (Al cs A g))(e:D1 K cs [Al cs A f,Al cs A g]=.ok (.bl b)):El (Jl K cs) fa fb ρ=.ok (.bl b):=by
 unfold El
 rw [ha,Out.AA,hb,Out.AA]
 have el:List.lookup cs.c_Map (Jl K cs)=some (D1 K cs):=by simp [List.lookup]
 have ek:bj (Jl K cs) (Al cs A g)=true:=by
  show (List.lookup cs.c_Map (Jl K cs)).isSome=true
  rw [el]
  rfl
 show (match List.lookup cs.c_Map (Jl K cs) with
  | some ψ=>if bj (Jl K cs) (Al cs A g)=true then kT (ψ [Al cs A f,Al cs A g]) else Out.bad
  | none=>Out.bad)=_
 rw [el]
 simp only
 rw [if_pos ek,e]
 rfl
section
variable {A:List Kn} {f g h:Kn→List Row} {b c w v:Nat}
theorem Mp.gK(hf:Mp A f b w)(hm:∀ k∈A,Nm k):∀ k∈A,∀ r∈f k,Yd r:=fun k hk r hr p hp=>hm p.1 ((hf.fo.g k hk r hr).sub p.1 (Eu hp))
theorem eqB_iff(hf:Mp A f b w)(hg:Mp A g c v):eqB A f g=true ↔ ∀ k∈A,∀ P,HY P→(W (f k) P ↔ W (g k) P):=by
 unfold eqB
 rw [List.all_eq_true]
 constructor
 ·intro h k hk P _
  rw [of_decide_eq_true (h k hk)]
 ·intro h k hk
  refine decide_eq_true ?_
  rw [← hf.s k hk,← hg.s k hk]
  exact (ji (hf.fo.g k hk).nd (hg.fo.g k hk).nd).mpr fun q z=>h k hk _ (CP q z)
theorem dm(hf:Mp A f b w)(hg:Mp A g c v){k:Kn}(hk:k∈A):GX (f k) (g k)=true ↔ ∀ P,HY P→W (g k) P→W (f k) P:=by
 rw [UT (hg.fo.g k hk).nd]
 exact ⟨fun d P hP=>Nr.W d hP,fun h=>Xx (hg.fo.g k hk).nd fun q z=>h _ (CP q z)⟩
theorem gU{R Q:List Row}(n:∀ r∈Q,(ks r).Nodup):GX R Q=true ↔ ∀ P,HY P→W Q P→W R P:=by
 rw [UT n]
 exact ⟨fun d P hP=>Nr.W d hP,fun h=>Xx n fun q z=>h _ (CP q z)⟩
end
theorem YC{A:List Kn}(hA:As A)(h0:A≠[])(hm:∀ k∈A,Nm k){f g h:Kn→List Row}{b w:Nat}(hb:b=1∨b=2∨b=3)(hf:Mp A f b w)(hg:Mp A g b w)(hh:Mp A h b w):Eo K cs [Al cs A f,Al cs A g,Al cs A h]=.ok (.bl true):=by
 have ed:Eo K cs [Al cs A f,Al cs A g,Al cs A h]=AB 3 (FG K cs) [Al cs A f,Al cs A g,Al cs A h]:=AJ rfl
 rw [ed]
 unfold FG
 obtain ⟨ρ,hρ⟩:∃ ρ:FD.Env,ρ=[some (.sh (Al cs A f)),some (.sh (Al cs A g)),some (.sh (Al cs A h))]:=⟨_,rfl⟩
 have v0:Aa 0 ρ=.ok (Al cs A f):=by rw [hρ]; rfl
 have v1:Aa 1 ρ=.ok (Al cs A g):=by rw [hρ]; rfl
 have v2:Aa 2 ρ=.ok (Al cs A h):=by rw [hρ]; rfl
 have J:∀ {fa fb:FD.Env→Out Dt} {p q:Kn→List Row} {n m x y:Nat},fa ρ=.ok (Al cs A p)→fb ρ=.ok (Al cs A q)→Mp A p n x→Mp A q m y→n * m≤200→n≤200→m≤200→AS (Ay K cs) fa fb ρ=.ok (Al cs A (oJ p q)):=fun ha hb hp hq l1 l2 l3=>PV ha hb (ae hA h0 hp hq l1 l2 l3)
 have E:∀ {fa fb:FD.Env→Out Dt} {p q:Kn→List Row} {n m x y:Nat},fa ρ=.ok (Al cs A p)→fb ρ=.ok (Al cs A q)→Mp A p n x→Mp A q m y→n + m≤200→n≤200→m≤200→AS (Aw K cs) fa fb ρ=.ok (Al cs A (oE p q)):=fun ha hb hp hq l1 l2 l3=>PV ha hb (Ul hA h0 hp hq l1 l2 l3)
 have Q:∀ {fa fb:FD.Env→Out Dt} {p q:Kn→List Row} {n m x y:Nat},fa ρ=.ok (Al cs A p)→fb ρ=.ok (Al cs A q)→Mp A p n x→Mp A q m y→(∀ k∈A,∀ P,HY P→(W (p k) P ↔ W (q k) P))→El (Jl K cs) fa fb ρ=.ok (.bl true):=fun ha hb hp hq hw=>by
  refine eO ha hb ?_
  rw [cm (hp.gK hm) (hq.gK hm),(eqB_iff hp hq).mpr hw]
 have n1:b≤200:=by rcases hb with rfl | rfl | rfl <;> decide
 have n2:b * b≤200:=by rcases hb with rfl | rfl | rfl <;> decide
 have n3:b + b≤200:=by rcases hb with rfl | rfl | rfl <;> decide
 have n4:b * (b + b)≤200:=by rcases hb with rfl | rfl | rfl <;> decide
 have n5:b + b * b≤200:=by rcases hb with rfl | rfl | rfl <;> decide
 have n6:b * b * b≤200:=by rcases hb with rfl | rfl | rfl <;> decide
 have n7:b * (b * b)≤200:=by rcases hb with rfl | rfl | rfl <;> decide
 have n8:b + b + b≤200:=by rcases hb with rfl | rfl | rfl <;> decide
 have n9:b + (b + b)≤200:=by rcases hb with rfl | rfl | rfl <;> decide
 have n10:(b + b) * (b + b)≤200:=by rcases hb with rfl | rfl | rfl <;> decide
 have n11:b * b + b * b≤200:=by rcases hb with rfl | rfl | rfl <;> decide
 have fg:=hf.J hg
 have fg':=hf.E hg
 have q1:El (Jl K cs) (AS (Ay K cs) (Aa 0) (Aa 1)) (AS (Ay K cs) (Aa 1) (Aa 0)) ρ=.ok (.bl true):=Q (J v0 v1 hf hg n2 n1 n1) (J v1 v0 hg hf n2 n1 n1) (hf.J hg) (hg.J hf) fun k hk P hP=>by rw [R0 hf hg hk hP,R0 hg hf hk hP]; exact and_comm
 have q2:El (Jl K cs) (AS (Aw K cs) (Aa 0) (Aa 1)) (AS (Aw K cs) (Aa 1) (Aa 0)) ρ=.ok (.bl true):=Q (E v0 v1 hf hg n3 n1 n1) (E v1 v0 hg hf n3 n1 n1) (hf.E hg) (hg.E hf) fun k hk P hP=>by rw [Sl hf hg hk hP,Sl hg hf hk hP]; exact or_comm
 have q3:El (Jl K cs) (AS (Ay K cs) (Aa 0) (Aa 0)) (Aa 0) ρ=.ok (.bl true):=Q (J v0 v0 hf hf n2 n1 n1) v0 (hf.J hf) hf fun k hk P hP=>by rw [R0 hf hf hk hP,and_self]
 have q4:El (Jl K cs) (AS (Aw K cs) (Aa 0) (Aa 0)) (Aa 0) ρ=.ok (.bl true):=Q (E v0 v0 hf hf n3 n1 n1) v0 (hf.E hf) hf fun k hk P hP=>by rw [Sl hf hf hk hP,or_self]
 have q5:El (Jl K cs) (AS (Ay K cs) (Aa 0) (AS (Aw K cs) (Aa 0) (Aa 1))) (Aa 0) ρ=.ok (.bl true):=Q (J v0 (E v0 v1 hf hg n3 n1 n1) hf fg' n4 n1 n3) v0 (hf.J fg') hf fun k hk P hP=>by rw [R0 hf fg' hk hP,Sl hf hg hk hP]; exact ⟨fun z=>z.1,fun z=>⟨z,.inl z⟩⟩
 have q6:El (Jl K cs) (AS (Aw K cs) (Aa 0) (AS (Ay K cs) (Aa 0) (Aa 1))) (Aa 0) ρ=.ok (.bl true):=Q (E v0 (J v0 v1 hf hg n2 n1 n1) hf fg n5 n1 n2) v0 (hf.E fg) hf fun k hk P hP=>by rw [Sl hf fg hk hP,R0 hf hg hk hP]; exact ⟨fun z=>z.elim id fun z=>z.1,.inl⟩
 have q7:El (Jl K cs) (AS (Ay K cs) (AS (Ay K cs) (Aa 0) (Aa 1)) (Aa 2)) (AS (Ay K cs) (Aa 0) (AS (Ay K cs) (Aa 1) (Aa 2))) ρ=.ok (.bl true):=Q (J (J v0 v1 hf hg n2 n1 n1) v2 fg hh n6 n2 n1) (J v0 (J v1 v2 hg hh n2 n1 n1) hf (hg.J hh) n7 n1 n2) (fg.J hh) (hf.J (hg.J hh)) fun k hk P hP=>by rw [R0 fg hh hk hP,R0 hf hg hk hP,R0 hf (hg.J hh) hk hP,R0 hg hh hk hP]; exact and_assoc
 have q8:El (Jl K cs) (AS (Aw K cs) (AS (Aw K cs) (Aa 0) (Aa 1)) (Aa 2)) (AS (Aw K cs) (Aa 0) (AS (Aw K cs) (Aa 1) (Aa 2))) ρ=.ok (.bl true):=Q (E (E v0 v1 hf hg n3 n1 n1) v2 fg' hh n8 n3 n1) (E v0 (E v1 v2 hg hh n3 n1 n1) hf (hg.E hh) n9 n1 n3) (fg'.E hh) (hf.E (hg.E hh)) fun k hk P hP=>by rw [Sl fg' hh hk hP,Sl hf hg hk hP,Sl hf (hg.E hh) hk hP,Sl hg hh hk hP]; exact or_assoc
 have q9:El (Jl K cs) (AS (Aw K cs) (Aa 0) (AS (Ay K cs) (Aa 1) (Aa 2))) (AS (Ay K cs) (AS (Aw K cs) (Aa 0) (Aa 1)) (AS (Aw K cs) (Aa 0) (Aa 2))) ρ=.ok (.bl true):=Q (E v0 (J v1 v2 hg hh n2 n1 n1) hf (hg.J hh) n5 n1 n2) (J (E v0 v1 hf hg n3 n1 n1) (E v0 v2 hf hh n3 n1 n1) fg' (hf.E hh) n10 n3 n3) (hf.E (hg.J hh)) (fg'.J (hf.E hh)) fun k hk P hP=>by rw [Sl hf (hg.J hh) hk hP,R0 hg hh hk hP,R0 fg' (hf.E hh) hk hP,Sl hf hg hk hP,Sl hf hh hk hP]; exact or_and_left
 have q10:El (Jl K cs) (AS (Ay K cs) (Aa 0) (AS (Aw K cs) (Aa 1) (Aa 2))) (AS (Aw K cs) (AS (Ay K cs) (Aa 0) (Aa 1)) (AS (Ay K cs) (Aa 0) (Aa 2))) ρ=.ok (.bl true):=Q (J v0 (E v1 v2 hg hh n3 n1 n1) hf (hg.E hh) n4 n1 n3) (E (J v0 v1 hf hg n2 n1 n1) (J v0 v2 hf hh n2 n1 n1) fg (hf.J hh) n11 n2 n2) (hf.J (hg.E hh)) (fg.E (hf.J hh)) fun k hk P hP=>by rw [R0 hf (hg.E hh) hk hP,Sl hg hh hk hP,Sl fg (hf.J hh) hk hP,R0 hf hg hk hP,R0 hf hh hk hP]; exact and_or_left
 subst hρ
 simp! [q1,q2,q3,q4,q5,q6,q7,q8,q9,q10]
theorem Zj{A:List Kn}(hA:As A)(h0:A≠[])(hm:∀ k∈A,Nm k){f g h:Kn→List Row}{b w:Nat}(hb:(b=2∧w=2)∨(b=1∧w=3)∨(b=3∧w=1))(hf:Mp A f b w)(hg:Mp A g b w)(hh:Mp A h b w):CK K cs [Al cs A f,Al cs A g,Al cs A h]=.ok (.bl true):=by
 have ed:CK K cs [Al cs A f,Al cs A g,Al cs A h]=AB 3 (DO K cs) [Al cs A f,Al cs A g,Al cs A h]:=AJ rfl
 rw [ed]
 unfold DO
 obtain ⟨ρ,hρ⟩:∃ ρ:FD.Env,ρ=[some (.sh (Al cs A f)),some (.sh (Al cs A g)),some (.sh (Al cs A h))]:=⟨_,rfl⟩
 have v0:Aa 0 ρ=.ok (Al cs A f):=by rw [hρ]; rfl
 have v1:Aa 1 ρ=.ok (Al cs A g):=by rw [hρ]; rfl
 have v2:Aa 2 ρ=.ok (Al cs A h):=by rw [hρ]; rfl
 have J:∀ {fa fb:FD.Env→Out Dt} {p q:Kn→List Row} {n m x y:Nat},fa ρ=.ok (Al cs A p)→fb ρ=.ok (Al cs A q)→Mp A p n x→Mp A q m y→n * m≤200→n≤200→m≤200→AS (Ay K cs) fa fb ρ=.ok (Al cs A (oJ p q)):=fun ha hb hp hq l1 l2 l3=>PV ha hb (ae hA h0 hp hq l1 l2 l3)
 have E:∀ {fa fb:FD.Env→Out Dt} {p q:Kn→List Row} {n m x y:Nat},fa ρ=.ok (Al cs A p)→fb ρ=.ok (Al cs A q)→Mp A p n x→Mp A q m y→n + m≤200→n≤200→m≤200→AS (Aw K cs) fa fb ρ=.ok (Al cs A (oE p q)):=fun ha hb hp hq l1 l2 l3=>PV ha hb (Ul hA h0 hp hq l1 l2 l3)
 have M:∀ {fa fb:FD.Env→Out Dt} {p q:Kn→List Row} {n m x y:Nat},fa ρ=.ok (Al cs A p)→fb ρ=.ok (Al cs A q)→Mp A p n x→Mp A q m y→n * m ^ x≤200→1≤n→1≤m→m≤200→AS (BK K cs) fa fb ρ=.ok (Al cs A (oP p q)):=fun ha hb hp hq l1 l2 l3 l4=>PV ha hb (ke hA h0 hp hq l1 l2 l3 l4)
 have Q:∀ {fa fb:FD.Env→Out Dt} {p q:Kn→List Row} {n m x y:Nat},fa ρ=.ok (Al cs A p)→fb ρ=.ok (Al cs A q)→Mp A p n x→Mp A q m y→(∀ k∈A,∀ P,HY P→(W (p k) P ↔ W (q k) P))→El (Jl K cs) fa fb ρ=.ok (.bl true):=fun ha hb hp hq hw=>by
  refine eO ha hb ?_
  rw [cm (hp.gK hm) (hq.gK hm),(eqB_iff hp hq).mpr hw]
 have n0:1≤b:=by rcases hb with ⟨rfl,rfl⟩ | ⟨rfl,rfl⟩ | ⟨rfl,rfl⟩ <;> decide
 have n1:b≤200:=by rcases hb with ⟨rfl,rfl⟩ | ⟨rfl,rfl⟩ | ⟨rfl,rfl⟩ <;> decide
 have n2:b * b≤200:=by rcases hb with ⟨rfl,rfl⟩ | ⟨rfl,rfl⟩ | ⟨rfl,rfl⟩ <;> decide
 have n3:b + b≤200:=by rcases hb with ⟨rfl,rfl⟩ | ⟨rfl,rfl⟩ | ⟨rfl,rfl⟩ <;> decide
 have n4:b * b * b ^ (w + w)≤200:=by rcases hb with ⟨rfl,rfl⟩ | ⟨rfl,rfl⟩ | ⟨rfl,rfl⟩ <;> decide
 have n5:(b + b) * b ^ (max w w)≤200:=by rcases hb with ⟨rfl,rfl⟩ | ⟨rfl,rfl⟩ | ⟨rfl,rfl⟩ <;> decide
 have n6:b * b ^ w≤200:=by rcases hb with ⟨rfl,rfl⟩ | ⟨rfl,rfl⟩ | ⟨rfl,rfl⟩ <;> decide
 have n7:(b * b ^ w) * (b * b ^ w)≤200:=by rcases hb with ⟨rfl,rfl⟩ | ⟨rfl,rfl⟩ | ⟨rfl,rfl⟩ <;> decide
 have n8:b * b ^ w + b * b ^ w≤200:=by rcases hb with ⟨rfl,rfl⟩ | ⟨rfl,rfl⟩ | ⟨rfl,rfl⟩ <;> decide
 have n9:1≤b * b:=by rcases hb with ⟨rfl,rfl⟩ | ⟨rfl,rfl⟩ | ⟨rfl,rfl⟩ <;> decide
 have n10:1≤b + b:=by omega
 have fh:=Mp.Pl hA hf hh n0
 have gh:=Mp.Pl hA hg hh n0
 have q1:El (Jl K cs) (AS (BK K cs) (AS (Ay K cs) (Aa 0) (Aa 1)) (Aa 2)) (AS (Ay K cs) (AS (BK K cs) (Aa 0) (Aa 2)) (AS (BK K cs) (Aa 1) (Aa 2))) ρ=.ok (.bl true):=Q (M (J v0 v1 hf hg n2 n1 n1) v2 (hf.J hg) hh n4 n9 n0 n1) (J (M v0 v2 hf hh n6 n0 n0 n1) (M v1 v2 hg hh n6 n0 n0 n1) fh gh n7 n6 n6) (Mp.Pl hA (hf.J hg) hh n0) (fh.J gh) fun k hk P hP=>by rw [jL (hf.J hg) hh n0 hk hP,R0 hf hg hk (aq hP),R0 fh gh hk hP,jL hf hh n0 hk hP,jL hg hh n0 hk hP]
 have q2:El (Jl K cs) (AS (BK K cs) (AS (Aw K cs) (Aa 0) (Aa 1)) (Aa 2)) (AS (Aw K cs) (AS (BK K cs) (Aa 0) (Aa 2)) (AS (BK K cs) (Aa 1) (Aa 2))) ρ=.ok (.bl true):=Q (M (E v0 v1 hf hg n3 n1 n1) v2 (hf.E hg) hh n5 n10 n0 n1) (E (M v0 v2 hf hh n6 n0 n0 n1) (M v1 v2 hg hh n6 n0 n0 n1) fh gh n8 n6 n6) (Mp.Pl hA (hf.E hg) hh n0) (fh.E gh) fun k hk P hP=>by rw [jL (hf.E hg) hh n0 hk hP,Sl hf hg hk (aq hP),Sl fh gh hk hP,jL hf hh n0 hk hP,jL hg hh n0 hk hP]
 subst hρ
 simp! [q1,q2]
structure Ns (N A:List Kn):Prop where
 e:kO.sort N=A
 nd:N.Nodup
 l:N.length≤20
 ne:N≠[]
 nm:∀ k∈N,Nm k
section
variable {N A:List Kn} {F G:Kn→List Row} {b w:Nat}
theorem Ns.mem(h:Ns N A){k:Kn}:k∈A ↔ k∈N:=by rw [← h.e]; exact (kO.CC N).mem_iff
theorem Ns.as(h:Ns N A):As A:=by rw [← h.e]; exact WZ h.nd h.l
theorem Ns.f9(h:Ns N A):A≠[]:=fun z=>by
 obtain ⟨k,hk⟩:=List.exists_mem_of_ne_nil _ h.ne
 have:=h.mem.mpr hk
 rw [z] at this
 cases this
theorem Ns.ZI(h:Ns N A):∀ k∈A,Nm k:=fun k hk=>h.nm k (h.mem.mp hk)
def nF(F:Kn→List Row):Kn→List Row:=fun k=>nf (F k)
theorem kJ(h:Ns N A)(hF:∀ k∈N,Gf N b w (F k)):Fo A F b:=⟨fun k hk r hr=>⟨((hF k (h.mem.mp hk)).gw.g r hr).nd,fun j hj=>h.mem.mpr (((hF k (h.mem.mp hk)).gw.g r hr).sub j hj)⟩,fun k hk=>(hF k (h.mem.mp hk)).gw.n,fun k hk=>(hF k (h.mem.mp hk)).len,fun k hk=>(hF k (h.mem.mp hk)).ne⟩
theorem G4(h:Ns N A)(hF:∀ k∈N,Gf N b w (F k)):Mp A (nF F) b w:=(kJ h hF).mp fun k hk=>(hF k (h.mem.mp hk)).gw.w
theorem Vf(h:Ns N A)(hb:b≤100){k:Kn}(hF:Gf N b w (F k)):Lr (F k):=⟨hF.ne,Nat.le_trans hF.len hb,hF.gw.g.nd,hF.gw.n,fun r hr p hp=>h.nm p.1 ((hF.gw.g r hr).sub p.1 (Eu hp)),fun r hr=>by have:=(hF.gw.g r hr).len; have:=h.l; omega⟩
theorem Mx(hF:Gf N b w (F k)){P:Kn→Int→Prop}(hP:HY P):W (nF F k) P ↔ W (F k) P:=YQ hF.gw.g.nd hP
end
abbrev T5(cs:Cs)(N A:List Kn)(F G:Kn→List Row)(k:Kn)(s:Row)(bl:Bool)(P:Row)(x9:Option Lo):FD.Env:=[some (.sh (Al cs A (nF F))),some (.sh (Al cs A (nF G))),some (.sh (AN N F)),some (.sh (AN N G)),some (.sh (.lst (N.map sD))),some (.sh (sD k)),some (.sh (rD s)),some (.sh (.bl bl)),some (.od (Cc P) (D7 P)),x9]
theorem RR{N A:List Kn}{F G:Kn→List Row}{k:Kn}{s:Row}{bl:Bool}{m1 m2:Int}(h1:Ca K cs [AN N F]=.ok (.int m1))(h2:Ca K cs [AN N G]=.ok (.int m2)):∀ (L:List Kn) (P:Row) (x:Option Lo),P.length + L.length≤1000→∃ (P':Row) (x':Option Lo),Bm (Ai 9) (A8 8 (Aa 9) (FD.e2 (Aj (Ca K cs) (Ab (Aa 2) Ag)) (Aj (Ca K cs) (Ab (Aa 3) Ag)) AV) [2,3]) (L.map sD) (T5 cs N A F G k s bl P x)=.ok .nx (T5 cs N A F G k s bl P' x')∧P'.length≤P.length + L.length∧(∀ k∈L,gt P' k=some (m1 + m2))∧∀ k,k∉L→gt P' k=gt P k
 | [],P,x,_=>⟨P,x,rfl,Nat.le_refl _,(fun k h=>nomatch h),fun k _=>rfl⟩
 | z :: L,P,x,hl=>by
  simp only [List.length_cons] at hl
  have lp:=Lc P z (m1 + m2)
  obtain ⟨P',x',e,h3,h4,h5⟩:=RR (A:=A) (k:=k) (s:=s) (bl:=bl) h1 h2 L (Dl P z (m1 + m2)) (some (.sh (sD z))) (by omega)
  refine ⟨P',x',?_,by rw [List.length_cons]; omega,fun j hj=>?_,fun j hj=>?_⟩
  ·have hv:(FD.e2 (Aj (Ca K cs) (Ab (Aa 2) Ag)) (Aj (Ca K cs) (Ab (Aa 3) Ag)) AV) (T5 cs N A F G k s bl P (some (.sh (sD z))))=.ok (.int (m1 + m2)):=by
    unfold T5
    simp! [h1,h2]
   have hp:=kR (i:=8) (fk:=Aa 9) (lk:=[2,3]) (ρ:=T5 cs N A F G k s bl P (some (.sh (sD z)))) (r:=P) (k:=z) (x:=m1 + m2) hv rfl rfl (by omega)
   rw [List.map_cons,G6 (ρ1:=T5 cs N A F G k s bl P (some (.sh (sD z)))) rfl,hp]
   exact e
  ·by_cases hm:j∈L
   ·exact h4 j hm
   ·rcases List.mem_cons.mp hj with rfl | y
    ·rw [h5 j hm,IG,if_pos rfl]
    ·exact absurd y hm
  ·have hm:j∉L:=fun y=>hj (List.mem_cons_of_mem _ y)
   rw [h5 j hm,IG,if_neg fun y=>hj (by rw [y]; exact List.mem_cons_self)]
theorem So{N A:List Kn}{F G:Kn→List Row}{k:Kn}{r:Row}{bl:Bool}(n:(ks r).Nodup):∀ (L P:Row) (x:Option Lo),(∀ p∈L,p∈r)→P.length + L.length≤1000→∃ (P':Row) (x':Option Lo),Bm (Ai 9) (A8 8 (Aa 9) (FD.e2 (eC (.int 0)) (FD.e2 (Aa 6) (Aa 9) Au) (OL (· - ·))) []) ((ks L).map sD) (T5 cs N A F G k r bl P x)=.ok .nx (T5 cs N A F G k r bl P' x')∧(∀ k∈ks L,gt P' k=(gt r k).map fun x=>0 - x)∧∀ k,k∉ks L→gt P' k=gt P k
 | [],P,x,_,_=>⟨P,x,rfl,(fun k h=>nomatch h),fun k _=>rfl⟩
 | p :: L,P,x,hr,hl=>by
  simp only [List.length_cons] at hl
  have lp:=Lc P p.1 (0 - p.2)
  have gp:=JH n (hr p List.mem_cons_self)
  obtain ⟨P',x',e,h2,h3⟩:=So (N:=N) (A:=A) (F:=F) (G:=G) (k:=k) (bl:=bl) n L (Dl P p.1 (0 - p.2)) (some (.sh (sD p.1))) (fun q hq=>hr q (List.mem_cons_of_mem _ hq)) (by omega)
  refine ⟨P',x',?_,fun j hj=>?_,fun j hj=>?_⟩
  ·have g1:Au (rD r) (sD p.1)=some (.int p.2):=by
    have:=T4 r p.1
    rw [gp] at this
    exact this
   have hv:(FD.e2 (eC (.int 0)) (FD.e2 (Aa 6) (Aa 9) Au) (OL (· - ·))) (T5 cs N A F G k r bl P (some (.sh (sD p.1))))=.ok (.int (0 - p.2)):=by
    unfold T5
    simp! [g1]
   have hp:=kR (i:=8) (fk:=Aa 9) (lk:=[]) (ρ:=T5 cs N A F G k r bl P (some (.sh (sD p.1)))) (r:=P) (k:=p.1) (x:=0 - p.2) hv rfl rfl (by omega)
   rw [show (ks (p :: L)).map sD=sD p.1 :: (ks L).map sD from rfl,G6 (ρ1:=T5 cs N A F G k r bl P (some (.sh (sD p.1)))) rfl,hp]
   exact e
  ·by_cases hm:j∈ks L
   ·exact h2 j hm
   ·rcases List.mem_cons.mp (show j∈p.1 :: ks L from hj) with rfl | z
    ·rw [h3 _ hm,IG,if_pos rfl,gp]
     rfl
    ·exact absurd z hm
  ·have hm:j∉ks L:=fun z=>hj (List.mem_cons_of_mem _ z)
   rw [h3 j hm,IG,if_neg fun z=>hj (by rw [z]; exact List.mem_cons_self)]
theorem Wj{N A:List Kn}{F G:Kn→List Row}{b c w v:Nat}(h:Ns N A)(hF:∀ k∈N,Gf N b w (F k))(hG:∀ k∈N,Gf N c v (G k)):
  (A.all fun k=>GX (nF F k) (nF G k))=(N.all fun k=>GX (F k) (G k))∧eqB A (oJ (nF F) (nF G)) (nF G)=(N.all fun k=>GX (F k) (G k))∧eqB A (oE (nF F) (nF G)) (nF F)=(N.all fun k=>GX (F k) (G k)):=by
 have mf:=G4 h hF
 have mg:=G4 h hG
 have key:(N.all fun k=>GX (F k) (G k))=true ↔ ∀ k∈A,∀ P,HY P→W (nF G k) P→W (nF F k) P:=by
  rw [List.all_eq_true]
  constructor
  ·intro z k hk P hP y
   have hk':=h.mem.mp hk
   rw [Mx (hG k hk') hP] at y
   rw [Mx (hF k hk') hP]
   exact (gU (hG k hk').gw.g.nd).mp (z k hk') P hP y
  ·intro z k hk
   refine (gU (hG k hk).gw.g.nd).mpr fun P hP y=>?_
   rw [← Mx (hG k hk) hP] at y
   rw [← Mx (hF k hk) hP]
   exact z k (h.mem.mpr hk) P hP y
 refine ⟨Bool.eq_iff_iff.mpr ?_,Bool.eq_iff_iff.mpr ?_,Bool.eq_iff_iff.mpr ?_⟩
 ·rw [key,List.all_eq_true]
  exact ⟨fun z k hk=>(dm mf mg hk).mp (z k hk),fun z k hk=>(dm mf mg hk).mpr (z k hk)⟩
 ·rw [key,eqB_iff (mf.J mg) mg]
  constructor
  ·intro z k hk P hP y
   exact ((R0 mf mg hk hP).mp ((z k hk P hP).mpr y)).1
  ·intro z k hk P hP
   rw [R0 mf mg hk hP]
   exact ⟨fun y=>y.2,fun y=>⟨z k hk P hP y,y⟩⟩
 ·rw [key,eqB_iff (mf.E mg) mf]
  constructor
  ·intro z k hk P hP y
   exact (z k hk P hP).mp ((Sl mf mg hk hP).mpr (.inr y))
  ·intro z k hk P hP
   rw [Sl mf mg hk hP]
   exact ⟨fun y=>y.elim id (z k hk P hP),.inl⟩
theorem TC{A:List Kn}{f g:Kn→List Row}{b w:Nat}(hA:As A)(hg:Mp A g b w){fa fb:FD.Env→Out Dt}{ρ:FD.Env}(ha:fa ρ=.ok (Al cs A f))(hb:fb ρ=.ok (Al cs A g)):BM (CW K cs) "is_below" fa (Ab fb Ag) ρ=.ok (.bl (A.all fun k=>GX (f k) (g k))):=
 (NW (m:=Str.ofString "is_below") (ψ:=DS K cs) (fo:=fa) (fs:=Ab fb Ag) (C:=cs.c_Map) (as:=[Al cs A g]) ha (by decide) (by rw [GR,hb]; rfl)).trans (dW hA.l fun k hk=>(hg.fo.g k hk).nd)
theorem Tp{N A:List Kn}{F G:Kn→List Row}{b w:Nat}(h:Ns N A)(hb:b=1∨b=2∨b=3)(hF:∀ k∈N,Gf N b w (F k))(hG:∀ k∈N,Gf N b w (G k)):CN K cs [Al cs A (nF F),Al cs A (nF G),AN N F,AN N G,.lst (N.map sD)]=.ok (.bl true):=by
 have ed:CN K cs [Al cs A (nF F),Al cs A (nF G),AN N F,AN N G,.lst (N.map sD)]=AB 10 (Hy K cs) [Al cs A (nF F),Al cs A (nF G),AN N F,AN N G,.lst (N.map sD)]:=AJ rfl
 rw [ed]
 unfold Hy
 have n1:b≤200:=by omega
 have n2:b * b≤200:=by rcases hb with rfl | rfl | rfl <;> decide
 have n3:b + b≤200:=by omega
 have mf:=G4 h hF
 have mg:=G4 h hG
 obtain ⟨b1,b2,b3⟩:=Wj h hF hG
 have t1:∀ {fa fb:FD.Env→Out Dt} {ρ:FD.Env},fa ρ=.ok (Al cs A (nF F))→fb ρ=.ok (Al cs A (nF G))→BM (CW K cs) "is_below" fa (Ab fb Ag) ρ=.ok (.bl (N.all fun k=>GX (F k) (G k))):=fun ha hb'=>by rw [TC h.as mg ha hb',b1]
 have t2:∀ {fa fb:FD.Env→Out Dt} {ρ:FD.Env},fa ρ=.ok (Al cs A (nF F))→fb ρ=.ok (Al cs A (nF G))→El (Jl K cs) (AS (Ay K cs) fa fb) fb ρ=.ok (.bl (N.all fun k=>GX (F k) (G k))):=fun ha hb'=>by
  refine eO (PV ha hb' (ae h.as h.f9 mf mg n2 n1 n1)) hb' ?_
  rw [cm ((mf.J mg).gK h.ZI) (mg.gK h.ZI),b2]
 have t3:∀ {fa fb:FD.Env→Out Dt} {ρ:FD.Env},fa ρ=.ok (Al cs A (nF F))→fb ρ=.ok (Al cs A (nF G))→El (Jl K cs) (AS (Aw K cs) fa fb) fa ρ=.ok (.bl (N.all fun k=>GX (F k) (G k))):=fun ha hb'=>by
  refine eO (PV ha hb' (Ul h.as h.f9 mf mg n3 n1 n1)) ha ?_
  rw [cm ((mf.E mg).gK h.ZI) (mf.gK h.ZI),b3]
 rcases YT (K:=K) (cs:=cs) (N:=N) (F:=F) (G:=G) (fun k hk=>(hF k hk).gw.g.nd) (fun k hk=>by have:=(hF k hk).len; omega) with ⟨hd,e⟩ | ⟨k,s,hk,hs,hn,e⟩
 ·have hall:(N.all fun k=>GX (F k) (G k))=true:=List.all_eq_true.mpr hd
  rw [hall] at t1 t2 t3
  have u1:=t1 (fa:=Aa 0) (fb:=Aa 1) (ρ:=[some (.sh (Al cs A (nF F))),some (.sh (Al cs A (nF G))),some (.sh (AN N F)),some (.sh (AN N G)),some (.sh (.lst (N.map sD))),some (.sh (.str "")),some (.sh (.dic [] [])),some (.sh (.bl true)),none,none]) rfl rfl
  have u2:=t2 (fa:=Aa 0) (fb:=Aa 1) (ρ:=[some (.sh (Al cs A (nF F))),some (.sh (Al cs A (nF G))),some (.sh (AN N F)),some (.sh (AN N G)),some (.sh (.lst (N.map sD))),some (.sh (.str "")),some (.sh (.dic [] [])),some (.sh (.bl true)),none,none]) rfl rfl
  have u3:=t3 (fa:=Aa 0) (fb:=Aa 1) (ρ:=[some (.sh (Al cs A (nF F))),some (.sh (Al cs A (nF G))),some (.sh (AN N F)),some (.sh (AN N G)),some (.sh (.lst (N.map sD))),some (.sh (.str "")),some (.sh (.dic [] [])),some (.sh (.bl true)),none,none]) rfl rfl
  have t4:=XC (K:=K) (cs:=cs) true true
  have hz:∀ (lk:List Nat) (ρ:FD.Env),lk.all (G0 ρ)=true→AQ (.tup [.str "",.dic [] []]) lk ρ=ρ:=fun lk ρ h=>Ek h
  simp! [e,beq_self_eq_true,u1,u2,u3,t4]
 ·have hall:(N.all fun k=>GX (F k) (G k))=false:=by
   rw [Bool.eq_false_iff]
   intro z
   have:=List.all_eq_true.mp (List.all_eq_true.mp z k hk) s hs
   rw [hn] at this
   cases this
  rw [hall] at t1 t2 t3
  have u1:=t1 (fa:=Aa 0) (fb:=Aa 1) (ρ:=[some (.sh (Al cs A (nF F))),some (.sh (Al cs A (nF G))),some (.sh (AN N F)),some (.sh (AN N G)),some (.sh (.lst (N.map sD))),some (.sh (sD k)),some (.sh (rD s)),some (.sh (.bl false)),none,none]) rfl rfl
  have u2:=t2 (fa:=Aa 0) (fb:=Aa 1) (ρ:=[some (.sh (Al cs A (nF F))),some (.sh (Al cs A (nF G))),some (.sh (AN N F)),some (.sh (AN N G)),some (.sh (.lst (N.map sD))),some (.sh (sD k)),some (.sh (rD s)),some (.sh (.bl false)),none,none]) rfl rfl
  have u3:=t3 (fa:=Aa 0) (fb:=Aa 1) (ρ:=[some (.sh (Al cs A (nF F))),some (.sh (Al cs A (nF G))),some (.sh (AN N F)),some (.sh (AN N G)),some (.sh (.lst (N.map sD))),some (.sh (sD k)),some (.sh (rD s)),some (.sh (.bl false)),none,none]) rfl rfl
  have t4:D5 K cs [.bl false,.bl false]=.ok (.bl true):=XC false false
  have hkA:=h.mem.mpr hk
  have gF:=hF k hk
  have gG:=hG k hk
  obtain ⟨m1,hm1,fm1⟩:=fX (K:=K) (cs:=cs) h.l h.ne fun z hz=>Vf h (by omega) (hF z hz)
  obtain ⟨m2,hm2,fm2⟩:=fX (K:=K) (cs:=cs) h.l h.ne fun z hz=>Vf h (by omega) (hG z hz)
  have hN:=h.l
  have hsn:=gG.gw.n s hs
  have hsd:=(gG.gw.g s hs).nd
  have hsl:=(gG.gw.g s hs).len
  obtain ⟨P1,x1,e1,l1,g1,_⟩:=RR (A:=A) (k:=k) (s:=s) (bl:=false) hm1 hm2 N [] none (by simp only [List.length_nil]; omega)
  simp only [List.length_nil] at l1
  obtain ⟨P2,x2,e2,g2,g3⟩:=So (cs:=cs) (N:=N) (A:=A) (F:=F) (G:=G) (k:=k) (bl:=false) hsd s P1 x1 (fun _ h=>h) (by omega)
  obtain ⟨pt,hpt⟩:∃ pt,pt=fq s (m1 + m2):=⟨_,rfl⟩
  have hP:∀ z∈A,gt P2 z=some (pt z):=fun z hz=>by
   rw [hpt]
   by_cases hm:z∈ks s
   ·rw [g2 z hm]
    unfold fq
    cases e:gt s z with
    | none=>exact absurd hm (Iw.mp e)
    | some x=>rfl
   ·rw [g3 z hm,g1 z (h.mem.mp hz)]
    unfold fq
    rw [Iw.mpr hm]
  have hlt:vl (nF G k) pt < vl (nF F k) pt:=by
   have vG:vl (nF G k) pt≤0:=by
    rw [UY (mg.fo.e k hkA) (mg.fo.n k hkA),V,Mx gG (CP pt 0)]
    refine ⟨s,hs,fun p hp=>?_⟩
    unfold gM
    rw [hpt]
    unfold fq
    rw [JH hsd hp]
    show 0 - p.2 + p.2≤0
    omega
   have vF:¬ vl (nF F k) pt≤0:=by
    rw [UY (mf.fo.e k hkA) (mf.fo.n k hkA),V,Mx gF (CP pt 0)]
    rintro ⟨r,hr,z⟩
    obtain ⟨p0,hp0⟩:=List.exists_mem_of_ne_nil s hsn
    have hM:=(fm2 k hk s hs p0 hp0).2
    have hb:Below r s:=fun p hp=>by
     have q:=z p hp
     unfold gM at q
     rw [hpt] at q
     unfold fq at q
     cases e:gt s p.1 with
     | none=>rw [e] at q; have:=(fm1 k hk r hr p hp).1; have q:m1 + m2 + p.2≤0:=q; omega
     | some x=>rw [e] at q; exact ⟨x,Hb e,by have q:0 - x + p.2≤0:=q; omega⟩
    have:((F k).any fun o=>Bj o s)=true:=List.any_eq_true.mpr ⟨r,hr,(Fh hsd).mpr hb⟩
    rw [hn] at this
    cases this
   omega
  have c1:RN (CV K cs) (Aa 0) (Ab (Aa 8) Ag) (T5 cs N A F G k s false P2 x2)=.ok (rD (DJ A (nF F) pt)):=ip rfl rfl (V6 h.as mf n1 hP)
  have c2:RN (CV K cs) (Aa 1) (Ab (Aa 8) Ag) (T5 cs N A F G k s false P2 x2)=.ok (rD (DJ A (nF G) pt)):=ip rfl rfl (V6 h.as mg n1 hP)
  have a1:Au (rD (DJ A (nF F) pt)) (sD k)=some (.int (vl (nF F k) pt)):=by
   have:=T4 (DJ A (nF F) pt) k
   rw [QU h.as.nd (nF F) pt hkA] at this
   exact this
  have a2:Au (rD (DJ A (nF G) pt)) (sD k)=some (.int (vl (nF G k) pt)):=by
   have:=T4 (DJ A (nF G) pt) k
   rw [QU h.as.nd (nF G) pt hkA] at this
   exact this
  have hf1:AW (Ai 9) (AD (Aa 4)) [4] (A8 8 (Aa 9) (FD.e2 (Aj (Ca K cs) (Ab (Aa 2) Ag)) (Aj (Ca K cs) (Ab (Aa 3) Ag)) AV) [2,3]) [some (.sh (Al cs A (nF F))),some (.sh (Al cs A (nF G))),some (.sh (AN N F)),some (.sh (AN N G)),some (.sh (.lst (N.map sD))),some (.sh (sD k)),some (.sh (rD s)),some (.sh (.bl false)),some (.od [] []),none]=.ok .nx (T5 cs N A F G k s false P1 x1):=e1
  have hf2:DU 6 (Ai 9) (A8 8 (Aa 9) (FD.e2 (eC (.int 0)) (FD.e2 (Aa 6) (Aa 9) Au) (OL (· - ·))) []) (T5 cs N A F G k s false P1 x1)=.ok .nx (T5 cs N A F G k s false P2 x2):=O1 (r:=s) rfl rfl e2
  have hne:(S k == Str.ofString "")=false:=beq_eq_false_iff_ne.mpr fun z=>by
   have z2:S k=S (sg ""):=by rw [z,Ny]
   exact (h.nm k hk).ne ((Nf.S_inj z2).trans (by decide +kernel))
  have hd:decide (vl (nF G k) pt < vl (nF F k) pt)=true:=decide_eq_true hlt
  have hq:Lz (sD k) (.str "")=some false:=congrArg some hne
  have hzz:∀ (lk:List Nat) (ρ:FD.Env),lk.all (G0 ρ)=true→AQ (.tup [sD k,rD s]) lk ρ=ρ:=fun lk ρ h=>Ek h
  unfold T5 at hf1 hf2 c1 c2
  simp! [e,hq,u1,u2,u3,t4,hf1,hf2,c1,c2,a1,a2,hd]
section
variable {N A:List Kn} {F G:Kn→List Row} {b w:Nat}
theorem nf_J(h:Ns N A)(hF:∀ k∈N,Gf N b w (F k))(hG:∀ k∈N,Gf N b w (G k)){k:Kn}(hk:k∈N):oJ (nF F) (nF G) k=nf (joinR (F k) (G k)):=by
 have mf:=G4 h hF
 have mg:=G4 h hG
 have hkA:=h.mem.mpr hk
 have gF:=hF k hk
 have gG:=hG k hk
 unfold oJ
 refine (ji ((mf.fo.g k hkA).join (mg.fo.g k hkA)).nd (gF.gw.g.join gG.gw.g).nd).mpr fun q c=>?_
 unfold V
 rw [SF (CP q c) (mf.fo.g k hkA).nd,SF (CP q c) gF.gw.g.nd,Mx gF (CP q c),Mx gG (CP q c)]
theorem nf_E(h:Ns N A)(hF:∀ k∈N,Gf N b w (F k))(hG:∀ k∈N,Gf N b w (G k)){k:Kn}(hk:k∈N):oE (nF F) (nF G) k=nf (F k ++ G k):=by
 have mf:=G4 h hF
 have mg:=G4 h hG
 have hkA:=h.mem.mpr hk
 have gF:=hF k hk
 have gG:=hG k hk
 unfold oE
 refine (ji ((mf.fo.g k hkA).app (mg.fo.g k hkA)).nd (gF.gw.g.app gG.gw.g).nd).mpr fun q c=>?_
 unfold V
 rw [Xg,Xg,Mx gF (CP q c),Mx gG (CP q c)]
theorem gY(h:Ns N A){R:List Row}(g:GL N R)(h0:R≠[])(hn:∀ r∈R,r≠[])(hl:R.length≤100):Lr R:=⟨h0,hl,g.nd,hn,fun r hr p hp=>h.nm p.1 ((g r hr).sub p.1 (Eu hp)),fun r hr=>by have:=(g r hr).len; have:=h.l; omega⟩
theorem lr_J(h:Ns N A)(hb:b≤3)(hF:∀ k∈N,Gf N b w (F k))(hG:∀ k∈N,Gf N b w (G k)){k:Kn}(hk:k∈N):Lr (joinR (F k) (G k)):=by
 have gF:=hF k hk
 have gG:=hG k hk
 refine gY h (gF.gw.g.join gG.gw.g) ?_ (fun x hx=>?_) ?_
 ·obtain ⟨r,hr⟩:=List.exists_mem_of_ne_nil _ gF.ne
  obtain ⟨s,hs⟩:=List.exists_mem_of_ne_nil _ gG.ne
  exact List.ne_nil_of_mem (mem_join.mpr ⟨r,hr,s,hs,rfl⟩)
 ·obtain ⟨r,hr,s,hs,rfl⟩:=mem_join.mp hx
  exact LW (.inl (gF.gw.n r hr))
 ·rw [Kl]
  have:=Nat.mul_le_mul (Nat.le_trans gF.len hb) (Nat.le_trans gG.len hb)
  omega
theorem lr_E(h:Ns N A)(hb:b≤3)(hF:∀ k∈N,Gf N b w (F k))(hG:∀ k∈N,Gf N b w (G k)){k:Kn}(hk:k∈N):Lr (F k ++ G k):=by
 have gF:=hF k hk
 have gG:=hG k hk
 refine gY h (gF.gw.g.app gG.gw.g) (List.append_ne_nil_of_left_ne_nil gF.ne _) (fun x hx=>(List.mem_append.mp hx).elim (gF.gw.n x) (gG.gw.n x)) ?_
 rw [List.length_append]
 have:=gF.len
 have:=gG.len
 omega
def Wd(F G:Kn→List Row)(pt:Kn→Int)(k:Kn):Int:=if vl (G k) pt > vl (F k) pt then vl (G k) pt else vl (F k) pt
def Wh(F G:Kn→List Row)(pt:Kn→Int)(k:Kn):Int:=if vl (G k) pt < vl (F k) pt then vl (G k) pt else vl (F k) pt
def jM(N:List Kn)(q:Kn→Int):Row:=N.map fun k=>(k,q k)
theorem aB(N:List Kn)(q:Kn→Int):ks (jM N q)=N:=by
 unfold ks jM
 rw [List.map_map]
 exact List.map_id _
theorem jd(N:List Kn)(q:Kn→Int):rD (jM N q)=.dic (N.map kN) (N.map fun k=>.int (q k)):=by
 unfold rD Cc D7 jM
 rw [List.map_map,List.map_map]
 rfl
theorem j4(h:Ns N A)(hF:∀ k∈N,Gf N b w (F k))(hG:∀ k∈N,Gf N b w (G k))(pt:Kn→Int){k:Kn}(hk:k∈N):Wd F G pt k=vl (oJ (nF F) (nF G) k) pt:=by
 have mf:=G4 h hF
 have mg:=G4 h hG
 have hkA:=h.mem.mpr hk
 have gF:=hF k hk
 have gG:=hG k hk
 have key:∀ c,vl (oJ (nF F) (nF G) k) pt≤c ↔ vl (F k) pt≤c∧vl (G k) pt≤c:=fun c=>by
  rw [UY ((mf.J mg).fo.e k hkA) ((mf.J mg).fo.n k hkA),UY gF.ne gF.gw.n,UY gG.ne gG.gw.n,V,R0 mf mg hkA (CP pt c),Mx gF (CP pt c),Mx gG (CP pt c)]
 have k1:=(key _).mp (Int.le_refl _)
 have k2:=(key (Wd F G pt k)).mpr (by unfold Wd; split <;> omega)
 unfold Wd at *
 split at k2 <;> omega
theorem ly(h:Ns N A)(hF:∀ k∈N,Gf N b w (F k))(hG:∀ k∈N,Gf N b w (G k))(pt:Kn→Int){k:Kn}(hk:k∈N):Wh F G pt k=vl (oE (nF F) (nF G) k) pt:=by
 have mf:=G4 h hF
 have mg:=G4 h hG
 have hkA:=h.mem.mpr hk
 have gF:=hF k hk
 have gG:=hG k hk
 have key:∀ c,vl (oE (nF F) (nF G) k) pt≤c ↔ vl (F k) pt≤c∨vl (G k) pt≤c:=fun c=>by
  rw [UY ((mf.E mg).fo.e k hkA) ((mf.E mg).fo.n k hkA),UY gF.ne gF.gw.n,UY gG.ne gG.gw.n,V,Sl mf mg hkA (CP pt c),Mx gF (CP pt c),Mx gG (CP pt c)]
 have k1:=(key _).mp (Int.le_refl _)
 have k2:=(key (Wh F G pt k)).mpr (by unfold Wh; split <;> omega)
 unfold Wh at *
 split at k2 <;> omega
end
theorem Uo{N A:List Kn}{F G:Kn→List Row}{b w j:Nat}{C:List Cell}{bx:Bx}(h:Ns N A)(hb:b=1∨b=2∨b=3)(hF:∀ k∈N,Gf N b w (F k))(hG:∀ k∈N,Gf N b w (G k))(hbx:C[j]? = some (JF bx))(hbn:bx.n≤100000000):
  ∃ C':List Cell,DQ K cs [Al cs A (nF F),Al cs A (nF G),AN N F,AN N G,.ad j,.lst (N.map sD)] C=.ok (.bl true) C':=by
 have ed:DQ K cs [Al cs A (nF F),Al cs A (nF G),AN N F,AN N G,.ad j,.lst (N.map sD)] C=runM 12 (EB K cs) [Al cs A (nF F),Al cs A (nF G),AN N F,AN N G,.ad j,.lst (N.map sD)] C:=GA rfl
 rw [ed]
 unfold EB
 have hb3:b≤3:=by omega
 have n1:b≤200:=by omega
 have n2:b * b≤200:=by rcases hb with rfl | rfl | rfl <;> decide
 have n3:b + b≤200:=by omega
 have hN:=h.l
 have mf:=G4 h hF
 have mg:=G4 h hG
 have lf:∀ k∈N,(F k).length≤30:=fun k hk=>by have:=(hF k hk).len; omega
 have lg:∀ k∈N,(G k).length≤30:=fun k hk=>by have:=(hG k hk).len; omega
 have rf:∀ k∈N,∀ r∈F k,r.length≤100:=fun k hk r hr=>by have:=((hF k hk).gw.g r hr).len; omega
 have rg:∀ k∈N,∀ r∈G k,r.length≤100:=fun k hk r hr=>by have:=((hG k hk).gw.g r hr).len; omega
 have tb:=jG (K:=K) (cs:=cs) h.nd hN lf rf (fun k hk=>(hG k hk).gw.g.nd) lg rg
 have te:=Zx (K:=K) (cs:=cs) (F:=F) (G:=G) h.nd hN (fun k hk=>by have:=lf k hk; omega) fun k hk=>by have:=lg k hk; omega
 have tr1:=Tw (K:=K) (cs:=cs) (N:=N) (f:=oJ (nF F) (nF G)) (R:=fun k=>joinR (F k) (G k)) h.as h.e h.ZI fun k hk=>⟨lr_J h hb3 hF hG (h.mem.mp hk),nf_J h hF hG (h.mem.mp hk)⟩
 have tr2:=Tw (K:=K) (cs:=cs) (N:=N) (f:=oE (nF F) (nF G)) (R:=fun k=>F k ++ G k) h.as h.e h.ZI fun k hk=>⟨lr_E h hb3 hF hG (h.mem.mp hk),nf_E h hF hG (h.mem.mp hk)⟩
 have oj:∀ {ρ:FD.Env},Aa 0 ρ=.ok (Al cs A (nF F))→Aa 1 ρ=.ok (Al cs A (nF G))→AS (Ay K cs) (Aa 0) (Aa 1) ρ=.ok (Al cs A (oJ (nF F) (nF G))):=fun a b=>PV a b (ae h.as h.f9 mf mg n2 n1 n1)
 have oe:∀ {ρ:FD.Env},Aa 0 ρ=.ok (Al cs A (nF F))→Aa 1 ρ=.ok (Al cs A (nF G))→AS (Aw K cs) (Aa 0) (Aa 1) ρ=.ok (Al cs A (oE (nF F) (nF G))):=fun a b=>PV a b (Ul h.as h.f9 mf mg n3 n1 n1)
 obtain ⟨P,C',tp,hP⟩:=bt (K:=K) (cs:=cs) hbx hbn h.nd hN
 have hPN:∀ k∈N,k∈ks P:=fun k hk=>by rw [hP]; exact List.mem_reverse.mpr hk
 have hPm:Yd P:=fun p hp=>h.nm p.1 (by have:=Eu hp; rw [hP] at this; exact List.mem_reverse.mp this)
 obtain ⟨pt,hpt⟩:∃ pt:Kn→Int,∀ k∈N,gt P k=some (pt k):=⟨fun k=>(gt P k).getD 0,fun k hk=>by
  cases e:gt P k with
  | none=>exact absurd (hPN k hk) (Iw.mp e)
  | some x=>
   show some x=some ((gt P k).getD 0)
   rw [e]
   rfl⟩
 have tv1:=Vi (K:=K) (cs:=cs) (P:=P) (pt:=pt) h.nd hN (fun k hk=>Vf h (by omega) (hF k hk)) fun k hk r hr z hz=>hpt z (((hF k hk).gw.g r hr).sub z hz)
 have tv2:=Vi (K:=K) (cs:=cs) (P:=P) (pt:=pt) h.nd hN (fun k hk=>Vf h (by omega) (hG k hk)) fun k hk r hr z hz=>hpt z (((hG k hk).gw.g r hr).sub z hz)
 obtain ⟨ρ',e,x11,hρ⟩:=K3 (u:=Ai 11) (b:=(Ao (A8 9 (Aa 11) (eB MV (Ab (FD.e2 (Aa 7) (Aa 11) Au) (Ab (FD.e2 (Aa 8) (Aa 11) Au) Ag))) [])
  (A8 10 (Aa 11) (eB Mh (Ab (FD.e2 (Aa 7) (Aa 11) Au) (Ab (FD.e2 (Aa 8) (Aa 11) Au) Ag))) []))) (E:=fun Q ρ=>∃ x:Option Lo,ρ=[some (.sh (Al cs A (nF F))),some (.sh (Al cs A (nF G))),some (.sh (AN N F)),some (.sh (AN N G)),some (.sh (.ad j)),some (.sh (.lst (N.map sD))),some (.sh (rD P)),some (.sh (rD (DJ N F pt))),some (.sh (rD (DJ N G pt))),some (.od (Q.map kN) (Q.map fun k=>.int (Wd F G pt k))),some (.od (Q.map kN) (Q.map fun k=>.int (Wh F G pt k))),x,some (.mh C')]) h.nd (fun Q k L ρ eA hk hkN ⟨x,hρ⟩=>by
  subst hρ
  refine ⟨[some (.sh (Al cs A (nF F))),some (.sh (Al cs A (nF G))),some (.sh (AN N F)),some (.sh (AN N G)),some (.sh (.ad j)),some (.sh (.lst (N.map sD))),some (.sh (rD P)),some (.sh (rD (DJ N F pt))),some (.sh (rD (DJ N G pt))),some (.od (Q.map kN) (Q.map fun k=>.int (Wd F G pt k))),some (.od (Q.map kN) (Q.map fun k=>.int (Wh F G pt k))),some (.sh (sD k)),some (.mh C')],[some (.sh (Al cs A (nF F))),some (.sh (Al cs A (nF G))),some (.sh (AN N F)),some (.sh (AN N G)),some (.sh (.ad j)),some (.sh (.lst (N.map sD))),some (.sh (rD P)),some (.sh (rD (DJ N F pt))),some (.sh (rD (DJ N G pt))),some (.od ((Q ++ [k]).map kN) ((Q ++ [k]).map fun k=>.int (Wd F G pt k))),some (.od ((Q ++ [k]).map kN) ((Q ++ [k]).map fun k=>.int (Wh F G pt k))),some (.sh (sD k)),some (.mh C')],rfl,?_,_,rfl⟩
  have a1:Au (rD (DJ N F pt)) (.str (S k))=some (.int (vl (F k) pt)):=by
   rw [T4,QU h.nd F pt hkN]
   rfl
  have a2:Au (rD (DJ N G pt)) (.str (S k))=some (.int (vl (G k) pt)):=by
   rw [T4,QU h.nd G pt hkN]
   rfl
  have mx:MV [.int (vl (F k) pt),.int (vl (G k) pt)]=some (.int (Wd F G pt k)):=rfl
  have mn:Mh [.int (vl (F k) pt),.int (vl (G k) pt)]=some (.int (Wh F G pt k)):=rfl
  have pk:=Gm hk
  have pv1:Df (Q.map kN) (Q.map fun k=>.int (Wd F G pt k)) (Sum.inr (S k)) (.int (Wd F G pt k))=(Q ++ [k]).map fun k=>.int (Wd F G pt k):=Hf hk fun k=>.int (Wd F G pt k)
  have pv2:Df (Q.map kN) (Q.map fun k=>.int (Wh F G pt k)) (Sum.inr (S k)) (.int (Wh F G pt k))=(Q ++ [k]).map fun k=>.int (Wh F G pt k):=Hf hk fun k=>.int (Wh F G pt k)
  have hlen:=NG eA hN
  unfold sD
  simp! [a1,a2,mx,mn,pk,pv1,pv2,hlen]) N [] [some (.sh (Al cs A (nF F))),some (.sh (Al cs A (nF G))),some (.sh (AN N F)),some (.sh (AN N G)),some (.sh (.ad j)),some (.sh (.lst (N.map sD))),some (.sh (rD P)),some (.sh (rD (DJ N F pt))),some (.sh (rD (DJ N G pt))),some (.od [] []),some (.od [] []),none,some (.mh C')] rfl ⟨none,rfl⟩
 subst hρ
 have hf:AW (Ai 11) (AD (Aa 5)) [5] (Ao (A8 9 (Aa 11) (eB MV (Ab (FD.e2 (Aa 7) (Aa 11) Au) (Ab (FD.e2 (Aa 8) (Aa 11) Au) Ag))) [])
  (A8 10 (Aa 11) (eB Mh (Ab (FD.e2 (Aa 7) (Aa 11) Au) (Ab (FD.e2 (Aa 8) (Aa 11) Au) Ag))) [])) [some (.sh (Al cs A (nF F))),some (.sh (Al cs A (nF G))),some (.sh (AN N F)),some (.sh (AN N G)),some (.sh (.ad j)),some (.sh (.lst (N.map sD))),some (.sh (rD P)),some (.sh (rD (DJ N F pt))),some (.sh (rD (DJ N G pt))),some (.od [] []),some (.od [] []),none,some (.mh C')]=_:=e
 have tg1:=Xh (K:=K) (cs:=cs) (N:=N) (P:=P) (D:=jM N (Wd F G pt)) h.as h.e h.nd hN h.ZI (mf.J mg) n2 (fun k hk=>hpt k (h.mem.mp hk)) hPm (aB _ _) fun p hp=>by
  obtain ⟨k,hk,rfl⟩:=List.mem_map.mp hp
  exact j4 h hF hG pt hk
 have tg2:=Xh (K:=K) (cs:=cs) (N:=N) (P:=P) (D:=jM N (Wh F G pt)) h.as h.e h.nd hN h.ZI (mf.E mg) n3 (fun k hk=>hpt k (h.mem.mp hk)) hPm (aB _ _) fun p hp=>by
  obtain ⟨k,hk,rfl⟩:=List.mem_map.mp hp
  exact ly h hF hG pt hk
 rw [jd] at tg1 tg2
 refine ⟨C',?_⟩
 have o1:=oj (ρ:=[some (.sh (Al cs A (nF F))),some (.sh (Al cs A (nF G))),some (.sh (AN N F)),some (.sh (AN N G)),some (.sh (.ad j)),some (.sh (.lst (N.map sD))),none,none,none,none,none,none,some (.mh C)]) rfl rfl
 have o2:=oe (ρ:=[some (.sh (Al cs A (nF F))),some (.sh (Al cs A (nF G))),some (.sh (AN N F)),some (.sh (AN N G)),some (.sh (.ad j)),some (.sh (.lst (N.map sD))),none,none,none,none,none,none,some (.mh C)]) rfl rfl
 have o3:=oj (ρ:=[some (.sh (Al cs A (nF F))),some (.sh (Al cs A (nF G))),some (.sh (AN N F)),some (.sh (AN N G)),some (.sh (.ad j)),some (.sh (.lst (N.map sD))),some (.sh (rD P)),some (.sh (rD (DJ N F pt))),some (.sh (rD (DJ N G pt))),some (.od (N.map kN) (N.map fun k=>.int (Wd F G pt k))),some (.od (N.map kN) (N.map fun k=>.int (Wh F G pt k))),x11,some (.mh C')]) rfl rfl
 have o4:=oe (ρ:=[some (.sh (Al cs A (nF F))),some (.sh (Al cs A (nF G))),some (.sh (AN N F)),some (.sh (AN N G)),some (.sh (.ad j)),some (.sh (.lst (N.map sD))),some (.sh (rD P)),some (.sh (rD (DJ N F pt))),some (.sh (rD (DJ N G pt))),some (.od (N.map kN) (N.map fun k=>.int (Wd F G pt k))),some (.od (N.map kN) (N.map fun k=>.int (Wh F G pt k))),x11,some (.mh C')]) rfl rfl
 have hz1:∀ (lk:List Nat) (ρ:FD.Env),lk.all (G0 ρ)=true→AQ (rD P) lk ρ=ρ:=fun lk ρ h=>Ek h
 simp! [o1,tb,tr1,o2,te,tr2,tp,tv1,tv2,hf,o3,o4,tg1,tg2]
end Lk16
namespace Lk16
open PySem L2 FD SX TL Nf
variable {P:Program} {w:World} {K:PySem.W.Frag} {mg:Str→Option Value} {base:Heap} {cs:Cs}
abbrev Qk(ns:List Int)(x1 x2 x3 x4 x5 x6 x7 x8 x9 x10 x11 x12 x13:Option Lo)(C:List Cell):FD.Env:=[some (.sh (.fls (ns.map .int))),x1,x2,x3,x4,x5,x6,x7,x8,x9,x10,x11,x12,x13,some (.mh C)]
theorem kf{f:FD.Env→XO Bool}{ρ:FD.Env}:xT f ρ=(f ρ).bind fun b ρ1=>.ok (.bl b) ρ1:=rfl
theorem ZO{l:List Int}{i:Int}(h0:0≤i)(h1:i < (l.length:Int)):∃ z∈l,atI (l.map Dt.int) i=some (.int z):=by
 obtain ⟨z,hz,hm⟩:=P0 h0 h1
 exact ⟨z,List.mem_of_getElem? hm,by rw [O2,hz]; rfl⟩
theorem kQ{ns:List Int}(hl:ns.length≤63):∃ (lg:Bool) (N:List Kn) (C:List Cell),2≤N.length∧N.length≤20∧N.Nodup∧(∀ k∈N,Nm k)∧∀ G:FD.Env→SOut,(Ao (BO 1 (Az 14 (BL K cs) (xP (Ab (Aa 0) (Ab (eC (.int 0)) Ag))) [0]) []) (Ao (BO 2 (xT (FD.WU (Az 14 (Ap K cs) (xP (Ab (Aa 1) (Ab (eC (.int 8)) Ag))) [1]) (xP (eC (.int 7))) Lz)) []) (Ao (BO 3 (FD.x2 (xP (eL (Fx (Ab (eC (.int 3)) (Ab (eC (.int 2)) (Ab (eC (.int 4)) Ag)))))) (Az 14 (Ap K cs) (xP (Ab (Aa 1) (Ab (eC (.int 3)) Ag))) [1]) Bl) []) (Ao (BR (FD.t1 (Aa 2) AR) (BO 3 (FD.x2 (xP (eC (.int 9))) (Az 14 (Ap K cs) (xP (Ab (Aa 1) (Ab (eC (.int 12)) Ag))) [1]) AV) []) Ar) (Ao (BO 4 (Az 14 (F3 K cs) (xP (Ab (Aa 1) (Ab (Aa 3) Ag))) [1,3]) []) G))))) (Qk ns none none none none none none none none none none none none none [])=G (Qk ns (some (.sh (.ad 0))) (some (.sh (.bl lg))) (some (.sh (.int (N.length:Nat)))) (some (.sh (.lst (N.map sD)))) none none none none none none none none none C):=by
 obtain ⟨b,t0,hb0⟩:=XQ (K:=K) (cs:=cs) ns (k:=0) (by omega) hl []
 have a0:([JF b]:List Cell)[0]? = some (JF b):=rfl
 have t0:BL K cs [.fls (ns.map .int),.int 0] []=.ok (.ad 0) [JF b]:=t0
 obtain ⟨v,C1,b1,t1,v0,v1,s1⟩:=Jq (K:=K) (cs:=cs) a0 (by omega) (s:=8) (by decide) (by decide)
 have u1:=s1.up
 obtain ⟨y,C2,b2,t2,y0,y1,s2⟩:=Jq (K:=K) (cs:=cs) s1.NR (by omega) (s:=3) (by decide) (by decide)
 have u2:=s2.up
 obtain ⟨c,hc,hix⟩:=ZO (l:=[3,2,4]) y0 y1
 have hix:atI [Dt.int 3,.int 2,.int 4] y=some (Dt.int c):=hix
 have hc':2≤c∧c≤4:=by
  simp only [List.mem_cons,List.not_mem_nil,or_false] at hc
  omega
 by_cases hv:v=7
 ·subst hv
  obtain ⟨q,C3,b3,t3,q0,q1,s3⟩:=Jq (K:=K) (cs:=cs) s2.NR (by omega) (s:=12) (by decide) (by decide)
  have u3:=s3.up
  obtain ⟨n,hn⟩:∃ n:Nat,(9:Int) + q=(n:Int):=⟨(9 + q).toNat,by omega⟩
  obtain ⟨N,C4,b4,t4,nd,lN,hN,s4⟩:=W2 (K:=K) (cs:=cs) s3.NR (by omega) (k:=n) (by omega)
  refine ⟨true,N,C4,by omega,by omega,nd,hN,fun G=>?_⟩
  rw [lN]
  simp! [kf,t0,t1,beq_self_eq_true,t2,hix,t3,hn,t4]
 ·have hv':(v == (7:Int))=false:=beq_eq_false_iff_ne.mpr hv
  obtain ⟨n,rfl⟩:∃ n:Nat,c=(n:Int):=⟨c.toNat,by omega⟩
  obtain ⟨N,C4,b4,t4,nd,lN,hN,s4⟩:=W2 (K:=K) (cs:=cs) s2.NR (by omega) (k:=n) (by omega)
  refine ⟨false,N,C4,by omega,by omega,nd,hN,fun G=>?_⟩
  rw [lN]
  simp! [kf,t0,t1,hv',t2,hix,t4]
theorem iW{c:Int}(h:c∈[(0:Int),0,1,2]):∃ b w,Shp c b w:=by
 simp only [List.mem_cons,List.not_mem_nil,or_false] at h
 rcases h with rfl | rfl | rfl | rfl
 ·exact ⟨2,2,rfl,rfl,.inl ⟨rfl,rfl⟩⟩
 ·exact ⟨2,2,rfl,rfl,.inl ⟨rfl,rfl⟩⟩
 ·exact ⟨1,3,rfl,rfl,.inr (.inl ⟨rfl,rfl⟩)⟩
 ·exact ⟨3,1,rfl,rfl,.inr (.inr ⟨rfl,rfl⟩)⟩
theorem lF{ns:List Int}(hl:ns.length≤63){lg:Bool}{x1 x3 x4:Option Lo}(C:List Cell):∃ (x5:Option Lo) (s:Int × Int) (sh:Int) (b w:Nat) (C':List Cell),Rb s∧Shp sh b w∧∀ G:FD.Env→SOut,(Ao (BO 5 (Az 14 (BL K cs) (xP (Ab (Aa 0) (Ab (eC (.int 1)) Ag))) [0]) []) (Ao (BO 6 (Az 14 (E3 K cs) (xP (Ab (Aa 5) Ag)) [5]) []) (Ao (BO 7 (FD.x2 (xP (eL (Fx (Ab (eC (.int 0)) (Ab (eC (.int 0)) (Ab (eC (.int 1)) (Ab (eC (.int 2)) Ag))))))) (Az 14 (Ap K cs) (xP (Ab (Aa 5) (Ab (eC (.int 4)) Ag))) [5]) Bl) []) (Ao (BR (FD.t1 (Aa 2) AR) (B2 7 (eC (.int 1)) []) Ar) G)))) (Qk ns x1 (some (.sh (.bl lg))) x3 x4 none none none none none none none none none C)=G (Qk ns x1 (some (.sh (.bl lg))) x3 x4 x5 (some (.sh (DA s))) (some (.sh (.int sh))) none none none none none none C'):=by
 obtain ⟨b,t0,hb0⟩:=XQ (K:=K) (cs:=cs) ns (k:=1) (by omega) hl C
 have t0:BL K cs [.fls (ns.map .int),.int 1] C=.ok (.ad C.length) (C ++ [JF b]):=t0
 have a0:(C ++ [JF b])[C.length]? = some (JF b):=List.getElem?_concat_length ..
 obtain ⟨s,C1,b1,t1,hs,s1⟩:=Z0 (K:=K) (cs:=cs) a0 (by omega)
 have u1:=s1.up
 obtain ⟨y,C2,b2,t2,y0,y1,s2⟩:=Jq (K:=K) (cs:=cs) s1.NR (by omega) (s:=4) (by decide) (by decide)
 obtain ⟨c,hc,hix⟩:=ZO (l:=[0,0,1,2]) y0 y1
 have hix:atI [Dt.int 0,.int 0,.int 1,.int 2] y=some (Dt.int c):=hix
 cases lg with
 | true=>
  refine ⟨some (.sh (.ad C.length)),s,1,1,3,C2,hs,⟨rfl,rfl,.inr (.inl ⟨rfl,rfl⟩)⟩,fun G=>?_⟩
  simp! [t0,t1,t2,hix]
 | false=>
  obtain ⟨b,w,hsh⟩:=iW hc
  refine ⟨some (.sh (.ad C.length)),s,c,b,w,C2,hs,hsh,fun G=>?_⟩
  simp! [t0,t1,t2,hix]
theorem iO{k c:Nat}(hk:k < 3)(hc:c < 21):gI Wy (· * ·) (.int (k:Nat)) (.int (c:Nat))=some (.int ((k * c:Nat):Int)):=by
 have h:∀ k:Nat,k < 3→∀ c:Nat,c < 21→Wy (k:Int) (c:Int)=true:=by decide +kernel
 rw [ID,if_pos (h k hk c hc),Int.natCast_mul]
abbrev VY(N:List Kn)(F0 F1 F2:Kn→List Row):List Dt:=[AN N F0,AN N F1,AN N F2]
theorem jW{ns:List Int}(hl:ns.length≤63){N:List Kn}{s:Int × Int}{sh:Int}{b w:Nat}(hN:N.length≤20)(nd:N.Nodup)(hs:Rb s)(hsh:Shp sh b w){x1 x2 x5:Option Lo}(C:List Cell):
  ∃ (F0 F1 F2:Kn→List Row) (C':List Cell) (bx:Bx),(∀ k∈N,Gf N b w (F0 k))∧(∀ k∈N,Gf N b w (F1 k))∧(∀ k∈N,Gf N b w (F2 k))∧C'[C.length]? = some (JF bx)∧bx.n≤100000∧∀ G:FD.Env→SOut,(Ao (Hh 8 (EA (Ai 9) [9] AI (Aj (Dz K cs) (Ab (Aa 0) (Ab (FD.e2 (eC (.int 2)) (FD.e2 (Aa 9) (Aa 3) (gI Wy (· * ·))) AV) (Ab (Aa 4) (Ab (Aa 6) (Ab (Aa 7) Ag)))))) (Dr (Ab (eC (.int 3)) Ag)) []) [0,4,6,7,9]) (Ao (BO 10 (Az 14 (BL K cs) (xP (Ab (Aa 0) (Ab (eC (.int 62)) Ag))) [0]) []) (Ao (OH (FD.WU (Az 14 (Ap K cs) (xP (Ab (Aa 10) (Ab (eC (.int 2)) Ag))) [10]) (xP (eC (.int 1))) Lz) (Jx 8 (eC (.int 1)) (Az 14 (DD K cs) (xP (Ab (Aa 10) (Ab (FD.e2 (Aa 8) (eC (.int 0)) Bl) Ag))) [10]) []) Ar) G))) (Qk ns x1 x2 (some (.sh (.int (N.length:Nat)))) (some (.sh (.lst (N.map sD)))) x5 (some (.sh (DA s))) (some (.sh (.int sh))) none none none none none none C)=G (Qk ns x1 x2 (some (.sh (.int (N.length:Nat)))) (some (.sh (.lst (N.map sD)))) x5 (some (.sh (DA s))) (some (.sh (.int sh))) (some (.ol (VY N F0 F1 F2))) none (some (.sh (.ad C.length))) none none none C'):=by
 have hp:∀ k:Nat,∃ F:Kn→List Row,k < 3→(∀ z∈N,Gf N b w (F z))∧Dz K cs [.fls (ns.map .int),.int ((2 + k * N.length:Nat):Int),.lst (N.map sD),DA s,.int sh]=.ok (AN N F):=fun k=>by
  by_cases hk:k < 3
  ·have:k * N.length≤2 * 20:=Nat.mul_le_mul (by omega) hN
   obtain ⟨F,h1,h2⟩:=cQ (K:=K) (cs:=cs) hl (bg:=2 + k * N.length) (by omega) hsh hs hN nd
   exact ⟨F,fun _=>⟨h1,h2⟩⟩
  ·exact ⟨fun _=>[],fun h=>absurd h hk⟩
 obtain ⟨FF,hFF⟩:∃ FF:Nat→Kn→List Row,∀ k,k < 3→(∀ z∈N,Gf N b w (FF k z))∧Dz K cs [.fls (ns.map .int),.int ((2 + k * N.length:Nat):Int),.lst (N.map sD),DA s,.int sh]=.ok (AN N (FF k)):=⟨fun k=>Classical.choose (hp k),fun k=>Classical.choose_spec (hp k)⟩
 obtain ⟨bx,t0,hb0⟩:=XQ (K:=K) (cs:=cs) ns (k:=62) (by omega) hl C
 have t0:BL K cs [.fls (ns.map .int),.int 62] C=.ok (.ad C.length) (C ++ [JF bx]):=t0
 have a0:(C ++ [JF bx])[C.length]? = some (JF bx):=List.getElem?_concat_length ..
 obtain ⟨v,C1,b1,t1,v0,v1,s1⟩:=Jq (K:=K) (cs:=cs) a0 (by omega) (s:=2) (by decide) (by decide)
 have u1:=s1.up
 have hb3:b≤3:=by rcases hsh.ho with h | h | h <;> omega
 have hw3:w≤100:=by rcases hsh.ho with h | h | h <;> omega
 have hc:(EA (Ai 9) [9] AI (Aj (Dz K cs) (Ab (Aa 0) (Ab (FD.e2 (eC (.int 2)) (FD.e2 (Aa 9) (Aa 3) (gI Wy (· * ·))) AV) (Ab (Aa 4) (Ab (Aa 6) (Ab (Aa 7) Ag)))))) (Dr (Ab (eC (.int 3)) Ag)) []) (Qk ns x1 x2 (some (.sh (.int (N.length:Nat)))) (some (.sh (.lst (N.map sD)))) x5 (some (.sh (DA s))) (some (.sh (.int sh))) none none none none none none C)=.ok (VY N (FF 0) (FF 1) (FF 2)):=by
  have e3:VY N (FF 0) (FF 1) (FF 2)=(List.range 3).map fun k=>AN N (FF k):=rfl
  rw [e3]
  refine CM (e:=fun k:Nat=>.int (k:Int)) rfl (by decide) fun k hk=>⟨Qk ns x1 x2 (some (.sh (.int (N.length:Nat)))) (some (.sh (.lst (N.map sD)))) x5 (some (.sh (DA s))) (some (.sh (.int sh))) none (some (.sh (.int (k:Int)))) none none none none C,rfl,?_⟩
  have hk3:k < 3:=List.mem_range.mp hk
  have t:=(hFF k hk3).2
  have hm:=iO (k:=k) (c:=N.length) hk3 (by omega)
  have ha:(2:Int) + ((k * N.length:Nat):Int)=((2 + k * N.length:Nat):Int):=by omega
  unfold Qk
  simp! [hm,ha,t]
 by_cases hv:v=1
 ·subst hv
  obtain ⟨F1,C2,b2,t2,g1,c2,n2⟩:=ZG (K:=K) (cs:=cs) (N:=N) (F:=FF 0) s1.NR (by omega) nd hN hw3 hb3 (hFF 0 (by decide)).1
  refine ⟨FF 0,F1,FF 2,C2,b2,(hFF 0 (by decide)).1,g1,(hFF 2 (by decide)).1,c2,by omega,fun G=>?_⟩
  have hx:(Jx 8 (eC (.int 1)) (Az 14 (DD K cs) (xP (Ab (Aa 10) (Ab (FD.e2 (Aa 8) (eC (.int 0)) Bl) Ag))) [10]) []) (Qk ns x1 x2 (some (.sh (.int (N.length:Nat)))) (some (.sh (.lst (N.map sD)))) x5 (some (.sh (DA s))) (some (.sh (.int sh))) (some (.ol (VY N (FF 0) (FF 1) (FF 2)))) none (some (.sh (.ad C.length))) none none none C1)=.ok .nx (Qk ns x1 x2 (some (.sh (.int (N.length:Nat)))) (some (.sh (.lst (N.map sD)))) x5 (some (.sh (DA s))) (some (.sh (.int sh))) (some (.ol (VY N (FF 0) F1 (FF 2)))) none (some (.sh (.ad C.length))) none none none C2):=by
   have hf:(Az 14 (DD K cs) (xP (Ab (Aa 10) (Ab (FD.e2 (Aa 8) (eC (.int 0)) Bl) Ag))) [10]) (Qk ns x1 x2 (some (.sh (.int (N.length:Nat)))) (some (.sh (.lst (N.map sD)))) x5 (some (.sh (DA s))) (some (.sh (.int sh))) (some (.ol (VY N (FF 0) (FF 1) (FF 2)))) none (some (.sh (.ad C.length))) none none none C1)=.ok (AN N F1) (Qk ns x1 x2 (some (.sh (.int (N.length:Nat)))) (some (.sh (.lst (N.map sD)))) x5 (some (.sh (DA s))) (some (.sh (.int sh))) (some (.ol (VY N (FF 0) (FF 1) (FF 2)))) none (some (.sh (.ad C.length))) none none none C2):=by
    unfold Qk VY
    simp! [t2]
   unfold Jx
   rw [hf,Og,FD.GV]
   rfl
  unfold Qk at hc hx ⊢
  simp! [hc,FD.Ji,t0,t1,beq_self_eq_true,hx]
 ·have hv':(v == (1:Int))=false:=beq_eq_false_iff_ne.mpr hv
  refine ⟨FF 0,FF 1,FF 2,C1,b1,(hFF 0 (by decide)).1,(hFF 1 (by decide)).1,(hFF 2 (by decide)).1,s1.NR,by omega,fun G=>?_⟩
  unfold Qk at hc ⊢
  simp! [hc,FD.Ji,t0,t1,hv']
theorem WN{N A:List Kn}{F:Kn→List Row}{b w:Nat}(h:Ns N A)(hb:b≤3)(hF:∀ k∈N,Gf N b w (F k)):newD cs.c_Map (Be K cs) [AN N F]=.ok (Al cs A (nF F)):=by
 have t:=WV (K:=K) (cs:=cs) (F:=F) h.nd h.l h.ne ⟨fun k hk=>(hF k hk).gw.g,fun k hk=>(hF k hk).gw.n,fun k hk=>Nat.le_trans (hF k hk).len (by omega),fun k hk=>(hF k hk).ne⟩
 rw [h.e] at t
 exact t
theorem TH{N A:List Kn}{F:Kn→List Row}{b w:Nat}(h:Ns N A)(hb:b≤3)(hF:∀ k∈N,Gf N b w (F k)):C9 K cs [AN N F]=.ok (AN N F):=iV h.nd h.l fun k hk=>by have:=(hF k hk).len; omega
theorem Qn{N A:List Kn}{F:Kn→List Row}{b w:Nat}(h:Ns N A)(hb:b≤3)(hF:∀ k∈N,Gf N b w (F k)):BG K cs [Al cs A (nF F),AN N F]=.ok (.bl true):=Tw h.as h.e h.ZI fun k hk=>⟨Vf h (by omega) (hF k (h.mem.mp hk)),rfl⟩
theorem kq{ns:List Int}{N A:List Kn}{F0 F1 F2:Kn→List Row}{b w:Nat}(h:Ns N A)(hb:b≤3)(h0:∀ k∈N,Gf N b w (F0 k))(h1:∀ k∈N,Gf N b w (F1 k))(h2:∀ k∈N,Gf N b w (F2 k)){x1 x2 x3 x4 x5 x6 x7 x9 x10:Option Lo}(C:List Cell)(G:FD.Env→SOut):
  (Ao (B2 11 (Aj (newD cs.c_Map (Be K cs)) (Ab (Aj (C9 K cs) (Ab (FD.e2 (Aa 8) (eC (.int 0)) Bl) Ag)) Ag)) []) (Ao (B2 12 (Aj (newD cs.c_Map (Be K cs)) (Ab (Aj (C9 K cs) (Ab (FD.e2 (Aa 8) (eC (.int 1)) Bl) Ag)) Ag)) []) (Ao (B2 13 (Aj (newD cs.c_Map (Be K cs)) (Ab (Aj (C9 K cs) (Ab (FD.e2 (Aa 8) (eC (.int 2)) Bl) Ag)) Ag)) []) G))) (Qk ns x1 x2 x3 x4 x5 x6 x7 (some (.ol (VY N F0 F1 F2))) x9 x10 none none none C)=G (Qk ns x1 x2 x3 x4 x5 x6 x7 (some (.ol (VY N F0 F1 F2))) x9 x10 (some (.sh (Al cs A (nF F0)))) (some (.sh (Al cs A (nF F1)))) (some (.sh (Al cs A (nF F2)))) C):=by
 have c0:=TH (K:=K) (cs:=cs) h hb h0
 have c1:=TH (K:=K) (cs:=cs) h hb h1
 have c2:=TH (K:=K) (cs:=cs) h hb h2
 have t0:=WN (K:=K) (cs:=cs) h hb h0
 have t1:=WN (K:=K) (cs:=cs) h hb h1
 have t2:=WN (K:=K) (cs:=cs) h hb h2
 unfold Qk VY
 simp! [c0,c1,c2,t0,t1,t2,FD.GV]
theorem k7{ns:List Int}{N A:List Kn}{F0 F1 F2:Kn→List Row}{b w j:Nat}(h:Ns N A)(hb:(b=2∧w=2)∨(b=1∧w=3)∨(b=3∧w=1))(h0:∀ k∈N,Gf N b w (F0 k))(h1:∀ k∈N,Gf N b w (F1 k))(h2:∀ k∈N,Gf N b w (F2 k)){x1 x2 x3 x5 x6 x7 x9:Option Lo}{C:List Cell}{bx:Bx}(hbx:C[j]? = some (JF bx))(hbn:bx.n≤100000):
  d9 ((Ao (OH (Uu (FD.jR (Az 14 (DQ K cs) (xP (Ab (Aa 11) (Ab (Aa 12) (Ab (FD.e2 (Aa 8) (eC (.int 0)) Bl) (Ab (FD.e2 (Aa 8) (eC (.int 1)) Bl) (Ab (Aa 10) (Ab (Aa 4) Ag))))))) [11,12,10,4]) AR)) (AE (eC (.bl false)) []) Ar) (Ao (BR (Cb (AM (FD.t1 (Aj (Eo K cs) (Ab (Aa 11) (Ab (Aa 12) (Ab (Aa 13) Ag)))) AR)) (AM (FD.t1 (Aj (CK K cs) (Ab (Aa 11) (Ab (Aa 12) (Ab (Aa 13) Ag)))) AR))) (AE (eC (.bl false)) []) Ar) (Ao (BR (Cb (FD.t2 (BM (CW K cs) "is_below" (Aa 11) (Ab (AS (Ay K cs) (Aa 11) (Aa 12)) Ag)) (eC (.bl true)) UO) (FD.t2 (BM (CW K cs) "is_below" (AS (Aw K cs) (Aa 11) (Aa 12)) (Ab (Aa 11) Ag)) (eC (.bl true)) UO)) (AE (eC (.bl false)) []) Ar) (Ao (BR (Cb (AM (FD.t1 (Aj (CN K cs) (Ab (Aa 11) (Ab (Aa 12) (Ab (FD.e2 (Aa 8) (eC (.int 0)) Bl) (Ab (FD.e2 (Aa 8) (eC (.int 1)) Bl) (Ab (Aa 4) Ag)))))) AR)) (AM (FD.t1 (Aj (CN K cs) (Ab (Aa 12) (Ab (Aa 11) (Ab (FD.e2 (Aa 8) (eC (.int 1)) Bl) (Ab (FD.e2 (Aa 8) (eC (.int 0)) Bl) (Ab (Aa 4) Ag)))))) AR))) (AE (eC (.bl false)) []) Ar) (Ao (BR (AM (FD.t1 (Aj (CN K cs) (Ab (Aa 11) (Ab (Aa 13) (Ab (FD.e2 (Aa 8) (eC (.int 0)) Bl) (Ab (FD.e2 (Aa 8) (eC (.int 2)) Bl) (Ab (Aa 4) Ag)))))) AR)) (AE (eC (.bl false)) []) Ar) (AE (OJ (Aj (BG K cs) (Ab (Aa 11) (Ab (FD.e2 (Aa 8) (eC (.int 0)) Bl) Ag))) (OJ (Aj (BG K cs) (Ab (Aa 12) (Ab (FD.e2 (Aa 8) (eC (.int 1)) Bl) Ag))) (Aj (BG K cs) (Ab (Aa 13) (Ab (FD.e2 (Aa 8) (eC (.int 2)) Bl) Ag))))) [13])))))) (Qk ns x1 x2 x3 (some (.sh (.lst (N.map sD)))) x5 x6 x7 (some (.ol (VY N F0 F1 F2))) x9 (some (.sh (.ad j))) (some (.sh (Al cs A (nF F0)))) (some (.sh (Al cs A (nF F1)))) (some (.sh (Al cs A (nF F2)))) C))=.ok (.bl true):=by
 have hb':b=1∨b=2∨b=3:=by omega
 have n1:b≤200:=by omega
 have n2:b * b≤200:=by rcases hb' with rfl | rfl | rfl <;> decide
 have n3:b + b≤200:=by omega
 have m0:=G4 h h0
 have m1:=G4 h h1
 have m2:=G4 h h2
 obtain ⟨C',tp⟩:=Uo (K:=K) (cs:=cs) h hb' h0 h1 hbx (by omega)
 have tl:=YC (K:=K) (cs:=cs) h.as h.f9 h.ZI hb' m0 m1 m2
 have tr:=Zj (K:=K) (cs:=cs) h.as h.f9 h.ZI hb m0 m1 m2
 have o01:=Tp (K:=K) (cs:=cs) h hb' h0 h1
 have o10:=Tp (K:=K) (cs:=cs) h hb' h1 h0
 have o02:=Tp (K:=K) (cs:=cs) h hb' h0 h2
 have r0:=Qn (K:=K) (cs:=cs) h (by omega) h0
 have r1:=Qn (K:=K) (cs:=cs) h (by omega) h1
 have r2:=Qn (K:=K) (cs:=cs) h (by omega) h2
 obtain ⟨ρ,hρ⟩:∃ ρ:FD.Env,ρ=Qk ns x1 x2 x3 (some (.sh (.lst (N.map sD)))) x5 x6 x7 (some (.ol (VY N F0 F1 F2))) x9 (some (.sh (.ad j))) (some (.sh (Al cs A (nF F0)))) (some (.sh (Al cs A (nF F1)))) (some (.sh (Al cs A (nF F2)))) C':=⟨_,rfl⟩
 have v0:Aa 11 ρ=.ok (Al cs A (nF F0)):=by rw [hρ]; rfl
 have v1:Aa 12 ρ=.ok (Al cs A (nF F1)):=by rw [hρ]; rfl
 have oj:AS (Ay K cs) (Aa 11) (Aa 12) ρ=.ok (Al cs A (oJ (nF F0) (nF F1))):=PV v0 v1 (ae h.as h.f9 m0 m1 n2 n1 n1)
 have oe:AS (Aw K cs) (Aa 11) (Aa 12) ρ=.ok (Al cs A (oE (nF F0) (nF F1))):=PV v0 v1 (Ul h.as h.f9 m0 m1 n3 n1 n1)
 have b1:BM (CW K cs) "is_below" (Aa 11) (Ab (AS (Ay K cs) (Aa 11) (Aa 12)) Ag) ρ=.ok (.bl true):=by
  rw [TC h.as (m0.J m1) v0 oj]
  congr 2
  refine List.all_eq_true.mpr fun k hk=>(dm m0 (m0.J m1) hk).mpr fun P hP z=>?_
  exact ((R0 m0 m1 hk hP).mp z).1
 have b2:BM (CW K cs) "is_below" (AS (Aw K cs) (Aa 11) (Aa 12)) (Ab (Aa 11) Ag) ρ=.ok (.bl true):=by
  rw [TC h.as m0 oe v0]
  congr 2
  refine List.all_eq_true.mpr fun k hk=>(dm (m0.E m1) m0 hk).mpr fun P hP z=>?_
  exact (Sl m0 m1 hk hP).mpr (.inl z)
 have hi:UO (.bl true) (.bl true)=some false:=rfl
 subst hρ
 unfold Qk at b1 b2 ⊢
 unfold VY
 unfold VY at b1 b2
 simp! [tp,tl,tr,b1,b2,hi,o01,o10,o02,r0,r1,r2,dH]
theorem plain(T:Tx P w K mg base cs)(ns:List Int)(hl:ns.length≤63)(hb:∀ z∈ns,Builtin.Int.intBits z≤1048576):QP 14 (Xj K cs) [.fls (ns.map .int)]=.ok (.bl true):=by
 have e0:Dt.IA [Dt.fls (ns.map .int)]=true:=by
  have h1:(Dt.fls (ns.map .int)).na=true:=by rw [Dt.na]; exact GN (fun _=>rfl) ns
  rw [Dt.IA,h1]
  rfl
 rw [ff e0]
 show d9 (Xj K cs (Qk ns none none none none none none none none none none none none none []))=_
 unfold Xj
 obtain ⟨lg,N,C1,hN0,hN,nd,hn,ea⟩:=kQ (K:=K) (cs:=cs) hl
 rw [ea]
 obtain ⟨x5,s,sh,b,w,C2,hs,hsh,eb⟩:=lF (K:=K) (cs:=cs) hl (lg:=lg) (x1:=some (.sh (.ad 0))) (x3:=some (.sh (.int (N.length:Nat)))) (x4:=some (.sh (.lst (N.map sD)))) C1
 rw [eb]
 obtain ⟨F0,F1,F2,C3,bx,h0,h1,h2,hbx,hbn,ec⟩:=jW (K:=K) (cs:=cs) hl hN nd hs hsh (x1:=some (.sh (.ad 0))) (x2:=some (.sh (.bl lg))) (x5:=x5) C2
 rw [ec]
 have h:Ns N (kO.sort N):=⟨rfl,nd,hN,fun e=>(by rw [e] at hN0; exact absurd hN0 (by decide)),hn⟩
 have hb3:b≤3:=by rcases hsh.ho with h | h | h <;> omega
 rw [kq h hb3 h0 h1 h2]
 exact k7 h hsh.ho h0 h1 h2 hbx hbn
end Lk16
open PySem PySem.W PyProof.Rows in
theorem PySem.Challenge.cw_bidehall_k16_greater_and_lesser_maps_holds : PySem.Challenge.rw_bidehall_k16_greater_and_lesser_maps.Holds := by
 exact @LkH16.headed ⟨fun w K mg base cs fa fd T F=>FD.fT (Lk16.iq T F) fun ns hl hb=>Lk16.plain T ns hl hb⟩
#print axioms PySem.Challenge.cw_bidehall_k16_greater_and_lesser_maps_holds
