import PyProof.Rows.All
import Wide.All
import OpenK.AllK
import Wide.FinOn
import HandS.ForMost
import HandS.ForExc
import HandS.CallSlots
import HandS.IsInst
import HandS.Wide
import HandS.Gcd
import HandS.Star
import HandS.Defaults
import KE.KExcSuper
import KE.KSuper
import PyProof.FString
import PyProof.FString4
import HandS.ExcSuper
import HandS.ExcIs
import HandS.TryOnly
import HandS.ExcField
import KE.KExcIs
import HandS.EndBits
import KE.RegKSuper
import HandS.Text
import HandS.StrMore
import HandS.FStr
import HandS.RaiseMore
import HandS.Style
import HandS.Codes
import HandS.SetTxtIn
import PyProof.StrBlock2
import PyProof.Rows.RuleDivmod
import PySem.Challenge.RW_bidehall_k01_exact_texts
set_option Elab.async false
set_option linter.all false
set_option maxRecDepth 100000
set_option maxHeartbeats 8000000
/-! A functional layer over HandS: what an expression gives, as data, and how data lies in the heap. -/
namespace FD
open PySem L2

/-! ### data -/
inductive Dt where
  | non | bl (b : Bool) | int (i : Int) | str (s : Str) | ty (n : String) | cls (a : Addr)
  | tup (ds : List Dt) | lst (ds : List Dt) | fls (ds : List Dt)
  | dic (ks : List Key) (ds : List Dt)
  | obj (C : Addr) (ns : List Str) (ds : List Dt)
  | exn (a : Addr) (od : Option Addr) (C : Addr) (ns : List Str) (ds : List Dt)
def Dt.scal : Dt → Bool
  | .non => true | .bl _ => true | .int _ => true | .str _ => true | .ty _ => true | .cls _ => true
  | _ => false
mutual
/-- data that no list, dict or instance stands in -/
def Dt.pure : Dt → Bool
  | .non => true | .bl _ => true | .int _ => true | .str _ => true | .ty _ => true | .cls _ => true
  | .tup ds => Dt.pures ds
  | _ => false
def Dt.pures : List Dt → Bool
  | [] => true
  | d :: ds => d.pure && Dt.pures ds
end
structure Exn where
  cls : Addr
  fs : List (Str × Dt)
inductive Out (α : Type) where
  | ok (a : α) | exc (x : Exn) | bad
def Out.bind {α β : Type} (o : Out α) (f : α → Out β) : Out β := match o with
  | .ok a => f a
  | .exc x => .exc x
  | .bad => .bad
@[simp] theorem Out.bind_ok {α β : Type} (a : α) (f : α → Out β) : (Out.ok a).bind f = f a := rfl
@[simp] theorem Out.bind_exc {α β : Type} (x : Exn) (f : α → Out β) : (Out.exc x : Out α).bind f = .exc x := rfl
@[simp] theorem Out.bind_bad {α β : Type} (f : α → Out β) : (Out.bad : Out α).bind f = .bad := rfl
theorem Out.bind_assoc {α β γ : Type} (o : Out α) (f : α → Out β) (g : β → Out γ) : (o.bind f).bind g = o.bind fun a => (f a).bind g := by
  cases o <;> rfl
theorem Out.bind_eq_ok {α β : Type} {o : Out α} {f : α → Out β} {b : β} (h : o.bind f = .ok b) : ∃ a, o = .ok a ∧ f a = .ok b := by
  cases o with
  | ok a => exact ⟨a, rfl, h⟩
  | exc x => cases h
  | bad => cases h

abbrev Ad := Addr → Prop
def KTup (K : PySem.W.Frag) (a : Addr) (xs : List V) : Prop := ∃ (o : Obj) (its : Array Value) (n : Nat), K.lookup a = some o ∧ o.cls = .type "tuple" ∧ o.data = .seq its n ∧ its.size ≤ sizeLine ∧ Vals xs its.toList
def KLst (K : PySem.W.Frag) (a : Addr) (xs : List V) : Prop := ∃ (o : Obj) (its : Array Value) (n : Nat), K.lookup a = some o ∧ o.cls = .type "list" ∧ o.dict = none ∧ o.data = .seq its n ∧ its.size ≤ sizeLine ∧ Vals xs its.toList
mutual
def Rep (K : PySem.W.Frag) (H : Hp) (A : Ad) : Dt → V → Prop
  | .non, v => v = .non
  | .bl b, v => v = .bl b
  | .int i, v => v = .int i
  | .str s, v => v = .str s
  | .ty n, v => v = .ty n
  | .cls a, v => v = .ref a
  | .tup ds, v => ∃ a vs, v = .ref a ∧ ((¬ A a ∧ H a = some (.tup vs)) ∨ KTup K a vs) ∧ Reps K H A ds vs
  | .lst ds, v => ∃ a vs, v = .ref a ∧ ¬ A a ∧ H a = some (.lst vs) ∧ Reps K H A ds vs
  | .fls ds, v => ∃ a vs, v = .ref a ∧ ((¬ A a ∧ ∃ o, H a = some (.frz o (.lst vs))) ∨ KLst K a vs) ∧ Reps K H A ds vs
  | .dic ks ds, v => ∃ a kvs, v = .ref a ∧ ¬ A a ∧ H a = some (.dK kvs) ∧ kvs.map (·.1) = ks ∧ Reps K H A ds (kvs.map (·.2))
  | .obj C ns ds, v => ∃ a dx fs, v = .ref a ∧ ¬ A a ∧ H a = some (.ins C dx fs) ∧ fs.map (·.1) = ns ∧ Reps K H A ds (fs.map (·.2))
  | .exn a od _ ns ds, v => ∃ fs : List (Str × V), v = .ref a ∧ ((od = none ∧ fs = []) ∨ ∃ d, od = some d ∧ ¬ A d ∧ H d = some (.xd fs)) ∧ fs.map (·.1) = ns ∧ Reps K H A ds (fs.map (·.2))
def Reps (K : PySem.W.Frag) (H : Hp) (A : Ad) : List Dt → List V → Prop
  | [], vs => vs = []
  | d :: ds, vs => ∃ v r, vs = v :: r ∧ Rep K H A d v ∧ Reps K H A ds r
end
section
variable {K : PySem.W.Frag} {H H' : Hp} {A A' : Ad}
mutual
theorem Rep.mono (hk : ∀ a o, ¬ A a → H a = some o → H' a = some o) (ha : ∀ a, A' a → A a) : ∀ (d : Dt) (v : V), Rep K H A d v → Rep K H' A' d v
  | .non, _, h => h
  | .bl _, _, h => h
  | .int _, _, h => h
  | .str _, _, h => h
  | .ty _, _, h => h
  | .cls _, _, h => h
  | .tup ds, _, h => by
    unfold Rep at h ⊢
    obtain ⟨a, vs, e, h1, h2⟩ := h
    exact ⟨a, vs, e, h1.imp (fun ⟨x, y⟩ => ⟨fun z => x (ha _ z), hk _ _ x y⟩) id, Reps.mono hk ha ds vs h2⟩
  | .lst ds, _, h => by
    unfold Rep at h ⊢
    obtain ⟨a, vs, e, x, y, h2⟩ := h
    exact ⟨a, vs, e, fun z => x (ha _ z), hk _ _ x y, Reps.mono hk ha ds vs h2⟩
  | .fls ds, _, h => by
    unfold Rep at h ⊢
    obtain ⟨a, vs, e, h1, h2⟩ := h
    exact ⟨a, vs, e, h1.imp (fun ⟨x, o, y⟩ => ⟨fun z => x (ha _ z), o, hk _ _ x y⟩) id, Reps.mono hk ha ds vs h2⟩
  | .dic ks ds, _, h => by
    unfold Rep at h ⊢
    obtain ⟨a, kvs, e, x, y, h1, h2⟩ := h
    exact ⟨a, kvs, e, fun z => x (ha _ z), hk _ _ x y, h1, Reps.mono hk ha ds _ h2⟩
  | .exn a od C ns ds, _, h => by
    unfold Rep at h ⊢
    obtain ⟨fs, e, h1, h2, h3⟩ := h
    exact ⟨fs, e, h1.imp id (fun ⟨d, e1, x, y⟩ => ⟨d, e1, fun z => x (ha _ z), hk _ _ x y⟩), h2, Reps.mono hk ha ds _ h3⟩
  | .obj C ns ds, _, h => by
    unfold Rep at h ⊢
    obtain ⟨a, dx, fs, e, x, y, h1, h2⟩ := h
    exact ⟨a, dx, fs, e, fun z => x (ha _ z), hk _ _ x y, h1, Reps.mono hk ha ds _ h2⟩
theorem Reps.mono (hk : ∀ a o, ¬ A a → H a = some o → H' a = some o) (ha : ∀ a, A' a → A a) : ∀ (ds : List Dt) (vs : List V), Reps K H A ds vs → Reps K H' A' ds vs
  | [], _, h => h
  | d :: ds, _, h => by
    unfold Reps at h ⊢
    obtain ⟨v, r, e, h1, h2⟩ := h
    exact ⟨v, r, e, Rep.mono hk ha d v h1, Reps.mono hk ha ds r h2⟩
end
theorem Rep.same (hs : Same H H') {d : Dt} {v : V} (h : Rep K H A d v) : Rep K H' A d v := Rep.mono (fun a o _ e => hs a o e) (fun _ z => z) d v h
theorem Reps.same (hs : Same H H') {d : List Dt} {v : List V} (h : Reps K H A d v) : Reps K H' A d v := Reps.mono (fun a o _ e => hs a o e) (fun _ z => z) d v h
theorem Rep.anti (ha : ∀ a, A' a → A a) {d : Dt} {v : V} (h : Rep K H A d v) : Rep K H A' d v := Rep.mono (fun a o _ e => e) ha d v h
theorem Reps.anti (ha : ∀ a, A' a → A a) {d : List Dt} {v : List V} (h : Reps K H A d v) : Reps K H A' d v := Reps.mono (fun a o _ e => e) ha d v h
theorem Rep.scal {d : Dt} {v : V} (s : d.scal = true) (h : Rep K H A d v) : Rep K H' A' d v := by
  cases d <;> first | exact h | (cases s)
mutual
theorem Rep.pure (hm : ∀ a, A' a → Mut (H a)) : ∀ (d : Dt) (v : V), d.pure = true → Rep K H A d v → Rep K H A' d v
  | .non, _, _, h => h
  | .bl _, _, _, h => h
  | .int _, _, _, h => h
  | .str _, _, _, h => h
  | .ty _, _, _, h => h
  | .cls _, _, _, h => h
  | .tup ds, _, p, h => by
    unfold Rep at h ⊢
    obtain ⟨a, vs, e, h1, h2⟩ := h
    exact ⟨a, vs, e, h1.imp (fun ⟨x, y⟩ => ⟨fun z => by have q := hm a z; rw [y] at q; exact q, y⟩) id, Reps.pure hm ds vs (by unfold Dt.pure at p; exact p) h2⟩
  | .lst ds, _, p, _ => by simp [Dt.pure] at p
  | .fls ds, _, p, _ => by simp [Dt.pure] at p
  | .dic ks ds, _, p, _ => by simp [Dt.pure] at p
  | .obj C ns ds, _, p, _ => by simp [Dt.pure] at p
  | .exn _ _ _ _ _, _, p, _ => by simp [Dt.pure] at p
theorem Reps.pure (hm : ∀ a, A' a → Mut (H a)) : ∀ (ds : List Dt) (vs : List V), Dt.pures ds = true → Reps K H A ds vs → Reps K H A' ds vs
  | [], _, _, h => h
  | d :: ds, _, p, h => by
    unfold Reps at h ⊢
    obtain ⟨v, r, e, h1, h2⟩ := h
    unfold Dt.pures at p
    rw [Bool.and_eq_true] at p
    exact ⟨v, r, e, Rep.pure hm d v p.1 h1, Reps.pure hm ds r p.2 h2⟩
end
mutual
/-- an address that nothing stands at is avoided -/
theorem Rep.fresh {p : Addr} (hp : H p = none) : ∀ (d : Dt) (v : V), Rep K H A d v → Rep K H (fun a => A a ∨ a = p) d v
  | .non, _, h => h
  | .bl _, _, h => h
  | .int _, _, h => h
  | .str _, _, h => h
  | .ty _, _, h => h
  | .cls _, _, h => h
  | .tup ds, _, h => by
    unfold Rep at h ⊢
    obtain ⟨a, vs, e, h1, h2⟩ := h
    exact ⟨a, vs, e, h1.imp (fun ⟨x, y⟩ => ⟨fun z => z.elim x (ne_of_none y hp), y⟩) id, Reps.fresh hp ds vs h2⟩
  | .lst ds, _, h => by
    unfold Rep at h ⊢
    obtain ⟨a, vs, e, x, y, h2⟩ := h
    exact ⟨a, vs, e, fun z => z.elim x (ne_of_none y hp), y, Reps.fresh hp ds vs h2⟩
  | .fls ds, _, h => by
    unfold Rep at h ⊢
    obtain ⟨a, vs, e, h1, h2⟩ := h
    exact ⟨a, vs, e, h1.imp (fun ⟨x, o, y⟩ => ⟨fun z => z.elim x (ne_of_none y hp), o, y⟩) id, Reps.fresh hp ds vs h2⟩
  | .dic ks ds, _, h => by
    unfold Rep at h ⊢
    obtain ⟨a, kvs, e, x, y, h1, h2⟩ := h
    exact ⟨a, kvs, e, fun z => z.elim x (ne_of_none y hp), y, h1, Reps.fresh hp ds _ h2⟩
  | .exn a od C ns ds, _, h => by
    unfold Rep at h ⊢
    obtain ⟨fs, e, h1, h2, h3⟩ := h
    exact ⟨fs, e, h1.imp id (fun ⟨d, e1, x, y⟩ => ⟨d, e1, fun z => z.elim x (ne_of_none y hp), y⟩), h2, Reps.fresh hp ds _ h3⟩
  | .obj C ns ds, _, h => by
    unfold Rep at h ⊢
    obtain ⟨a, dx, fs, e, x, y, h1, h2⟩ := h
    exact ⟨a, dx, fs, e, fun z => z.elim x (ne_of_none y hp), y, h1, Reps.fresh hp ds _ h2⟩
theorem Reps.fresh {p : Addr} (hp : H p = none) : ∀ (ds : List Dt) (vs : List V), Reps K H A ds vs → Reps K H (fun a => A a ∨ a = p) ds vs
  | [], _, h => h
  | d :: ds, _, h => by
    unfold Reps at h ⊢
    obtain ⟨v, r, e, h1, h2⟩ := h
    exact ⟨v, r, e, Rep.fresh hp d v h1, Reps.fresh hp ds r h2⟩
end
mutual
/-- what data uses stands -/
theorem Rep.inDom : ∀ (d : Dt) (v : V), Rep K H A d v → Rep K H (fun a => A a ∨ H a = none) d v
  | .non, _, h => h
  | .bl _, _, h => h
  | .int _, _, h => h
  | .str _, _, h => h
  | .ty _, _, h => h
  | .cls _, _, h => h
  | .tup ds, _, h => by
    unfold Rep at h ⊢
    obtain ⟨a, vs, e, h1, h2⟩ := h
    exact ⟨a, vs, e, h1.imp (fun ⟨x, y⟩ => ⟨fun z => z.elim x (fun z => by rw [y] at z; cases z), y⟩) id, Reps.inDom ds vs h2⟩
  | .lst ds, _, h => by
    unfold Rep at h ⊢
    obtain ⟨a, vs, e, x, y, h2⟩ := h
    exact ⟨a, vs, e, fun z => z.elim x (fun z => by rw [y] at z; cases z), y, Reps.inDom ds vs h2⟩
  | .fls ds, _, h => by
    unfold Rep at h ⊢
    obtain ⟨a, vs, e, h1, h2⟩ := h
    exact ⟨a, vs, e, h1.imp (fun ⟨x, o, y⟩ => ⟨fun z => z.elim x (fun z => by rw [y] at z; cases z), o, y⟩) id, Reps.inDom ds vs h2⟩
  | .dic ks ds, _, h => by
    unfold Rep at h ⊢
    obtain ⟨a, kvs, e, x, y, h1, h2⟩ := h
    exact ⟨a, kvs, e, fun z => z.elim x (fun z => by rw [y] at z; cases z), y, h1, Reps.inDom ds _ h2⟩
  | .exn a od C ns ds, _, h => by
    unfold Rep at h ⊢
    obtain ⟨fs, e, h1, h2, h3⟩ := h
    exact ⟨fs, e, h1.imp id (fun ⟨d, e1, x, y⟩ => ⟨d, e1, fun z => z.elim x (fun z => by rw [y] at z; cases z), y⟩), h2, Reps.inDom ds _ h3⟩
  | .obj C ns ds, _, h => by
    unfold Rep at h ⊢
    obtain ⟨a, dx, fs, e, x, y, h1, h2⟩ := h
    exact ⟨a, dx, fs, e, fun z => z.elim x (fun z => by rw [y] at z; cases z), y, h1, Reps.inDom ds _ h2⟩
theorem Reps.inDom : ∀ (ds : List Dt) (vs : List V), Reps K H A ds vs → Reps K H (fun a => A a ∨ H a = none) ds vs
  | [], _, h => h
  | d :: ds, _, h => by
    unfold Reps at h ⊢
    obtain ⟨v, r, e, h1, h2⟩ := h
    exact ⟨v, r, e, Rep.inDom d v h1, Reps.inDom ds r h2⟩
end
theorem Reps.length : ∀ {ds : List Dt} {vs : List V}, Reps K H A ds vs → vs.length = ds.length
  | [], _, h => by unfold Reps at h; subst h; rfl
  | d :: ds, _, h => by
    unfold Reps at h
    obtain ⟨v, r, rfl, _, h2⟩ := h
    simp [Reps.length h2]
theorem Reps.get : ∀ {ds : List Dt} {vs : List V} {i : Nat} {d : Dt}, Reps K H A ds vs → ds[i]? = some d → ∃ v, vs[i]? = some v ∧ Rep K H A d v
  | [], _, _, _, _, e => by simp at e
  | d :: ds, _, 0, _, h, e => by
    unfold Reps at h
    obtain ⟨v, r, rfl, h1, h2⟩ := h
    simp at e
    subst e
    exact ⟨v, rfl, h1⟩
  | d :: ds, _, i + 1, _, h, e => by
    unfold Reps at h
    obtain ⟨v, r, rfl, h1, h2⟩ := h
    obtain ⟨u, e1, r1⟩ := Reps.get (i := i) h2 (by simpa using e)
    exact ⟨u, by simpa using e1, r1⟩
theorem Reps.get' : ∀ {ds : List Dt} {vs : List V} {i : Nat} {v : V}, Reps K H A ds vs → vs[i]? = some v → ∃ d, ds[i]? = some d ∧ Rep K H A d v
  | [], _, _, _, h, e => by unfold Reps at h; subst h; simp at e
  | d :: ds, _, 0, _, h, e => by
    unfold Reps at h
    obtain ⟨v, r, rfl, h1, h2⟩ := h
    simp at e
    subst e
    exact ⟨d, rfl, h1⟩
  | d :: ds, _, i + 1, _, h, e => by
    unfold Reps at h
    obtain ⟨v, r, rfl, h1, h2⟩ := h
    obtain ⟨u, e1, r1⟩ := Reps.get' (i := i) h2 (by simpa using e)
    exact ⟨u, by simpa using e1, r1⟩
theorem Reps.append : ∀ {ds es : List Dt} {vs us : List V}, Reps K H A ds vs → Reps K H A es us → Reps K H A (ds ++ es) (vs ++ us)
  | [], _, _, _, h, g => by unfold Reps at h; subst h; exact g
  | d :: ds, _, _, _, h, g => by
    unfold Reps at h
    obtain ⟨v, r, rfl, h1, h2⟩ := h
    show Reps K H A (d :: (ds ++ _)) (v :: (r ++ _))
    unfold Reps
    exact ⟨v, _, rfl, h1, Reps.append h2 g⟩
theorem Reps.nil : Reps K H A [] [] := by unfold Reps; rfl
theorem Reps.cons {d : Dt} {ds : List Dt} {v : V} {vs : List V} (h : Rep K H A d v) (g : Reps K H A ds vs) : Reps K H A (d :: ds) (v :: vs) := by
  unfold Reps
  exact ⟨v, vs, rfl, h, g⟩
theorem Reps.set : ∀ {ds : List Dt} {vs : List V} (i : Nat) {d : Dt} {v : V}, Reps K H A ds vs → Rep K H A d v → Reps K H A (ds.set i d) (vs.set i v)
  | [], _, _, _, _, h, _ => by unfold Reps at h; subst h; exact Reps.nil
  | _ :: _, _, 0, _, _, h, g => by
    unfold Reps at h
    obtain ⟨v, r, rfl, h1, h2⟩ := h
    exact Reps.cons g h2
  | _ :: _, _, i + 1, _, _, h, g => by
    unfold Reps at h
    obtain ⟨v, r, rfl, h1, h2⟩ := h
    exact Reps.cons h1 (Reps.set i h2 g)
theorem Reps.take : ∀ {ds : List Dt} {vs : List V} (n : Nat), Reps K H A ds vs → Reps K H A (ds.take n) (vs.take n)
  | [], _, n, h => by unfold Reps at h; subst h; simpa using Reps.nil
  | _ :: _, _, 0, h => by simpa using Reps.nil
  | _ :: _, _, n + 1, h => by
    unfold Reps at h
    obtain ⟨v, r, rfl, h1, h2⟩ := h
    exact Reps.cons h1 (Reps.take n h2)
theorem Reps.drop : ∀ {ds : List Dt} {vs : List V} (n : Nat), Reps K H A ds vs → Reps K H A (ds.drop n) (vs.drop n)
  | [], _, n, h => by unfold Reps at h; subst h; simpa using Reps.nil
  | _ :: _, _, 0, h => h
  | _ :: _, _, n + 1, h => by
    unfold Reps at h
    obtain ⟨v, r, rfl, h1, h2⟩ := h
    exact Reps.drop n h2
theorem Reps.ints {ns : List Int} {vs : List V} (h : Reps K H A (ns.map Dt.int) vs) : vs = ns.map V.int := by
  induction ns generalizing vs with
  | nil => unfold Reps at h; exact h
  | cons n ns ih =>
    unfold Reps at h
    obtain ⟨v, r, rfl, h1, h2⟩ := h
    have e : v = .int n := h1
    rw [e, ih h2]
    rfl
end

/-! ### locals -/
/-- a slot: data that stands for good, or a list | a dict that this def alone holds -/
inductive Lo where
  | sh (d : Dt) | ol (ds : List Dt) | od (ks : List Key) (ds : List Dt)
def Lo.d : Lo → Dt
  | .sh d => d
  | .ol ds => .lst ds
  | .od ks ds => .dic ks ds
def Lo.own : Lo → Bool
  | .sh _ => false
  | _ => true
@[simp] theorem Lo.d_sh (d : Dt) : (Lo.sh d).d = d := rfl
@[simp] theorem Lo.d_ol (d : List Dt) : (Lo.ol d).d = .lst d := rfl
@[simp] theorem Lo.d_od (k : List Key) (d : List Dt) : (Lo.od k d).d = .dic k d := rfl
abbrev Env := List (Option Lo)
def OwnAt (ρ : Env) (σ : L2.St) (i : Nat) (a : Addr) : Prop := ∃ l, ρ[i]? = some (some l) ∧ l.own = true ∧ σ[i]? = some (some (.ref a))
def Av (A0 : Ad) (ρ : Env) (σ : L2.St) (lk : List Nat) : Ad := fun a => A0 a ∨ ∃ i, i ∉ lk ∧ OwnAt ρ σ i a
structure StOk (K : PySem.W.Frag) (H0 : Hp) (A0 : Ad) (H : Hp) (ρ : Env) (σ : L2.St) : Prop where
  same : Same H0 H
  a0 : ∀ a, A0 a → Mut (H0 a)
  len : σ.length = ρ.length
  sh : ∀ (i : Nat) (d : Dt), ρ[i]? = some (some (Lo.sh d)) → ∃ v : V, σ[i]? = some (some v) ∧ Rep K H (Av A0 ρ σ []) d v
  ol : ∀ (i : Nat) (ds : List Dt), ρ[i]? = some (some (Lo.ol ds)) → ∃ (a : Addr) (vs : List V), σ[i]? = some (some (V.ref a)) ∧ H0 a = none ∧ H a = some (.lst vs) ∧ Reps K H (Av A0 ρ σ []) ds vs
  od : ∀ (i : Nat) (ks : List Key) (ds : List Dt), ρ[i]? = some (some (Lo.od ks ds)) → ∃ (a : Addr) (kvs : List (Key × V)), σ[i]? = some (some (V.ref a)) ∧ H0 a = none ∧ H a = some (.dK kvs) ∧ kvs.map (·.1) = ks ∧ Reps K H (Av A0 ρ σ []) ds (kvs.map (·.2))
  ap : ∀ (i j : Nat) (a : Addr), OwnAt ρ σ i a → OwnAt ρ σ j a → i = j
def frz1 (ρ : Env) (i : Nat) : Env := match ρ[i]? with
  | some (some l) => ρ.set i (some (.sh l.d))
  | _ => ρ
def frz (lk : List Nat) (ρ : Env) : Env := lk.foldl frz1 ρ
@[simp] theorem frz_nil (ρ : Env) : frz [] ρ = ρ := rfl
@[simp] theorem frz_cons (i : Nat) (lk : List Nat) (ρ : Env) : frz (i :: lk) ρ = frz lk (frz1 ρ i) := rfl
/-- what a value of data d may hold of the own slots lk -/
def frzD (d : Dt) (lk : List Nat) (ρ : Env) : Env := if d.pure then ρ else frz lk ρ
section
variable {K : PySem.W.Frag} {H0 H H' : Hp} {A0 : Ad} {ρ : Env} {σ : L2.St}
theorem StOk.ownSome (s : StOk K H0 A0 H ρ σ) {i : Nat} {a : Addr} (h : OwnAt ρ σ i a) : (∃ o, H a = some o) ∧ H0 a = none := by
  obtain ⟨l, e, ho, es⟩ := h
  cases l with
  | sh d => cases ho
  | ol ds =>
    obtain ⟨b, vs, e1, h0, h1, _⟩ := s.ol i ds e
    rw [es] at e1
    cases e1
    exact ⟨⟨_, h1⟩, h0⟩
  | od ks ds =>
    obtain ⟨b, vs, e1, h0, h1, _⟩ := s.od i ks ds e
    rw [es] at e1
    cases e1
    exact ⟨⟨_, h1⟩, h0⟩
theorem StOk.avMut (s : StOk K H0 A0 H ρ σ) {lk : List Nat} {a : Addr} (h : Av A0 ρ σ lk a) : Mut (H a) := by
  rcases h with h | ⟨i, _, h⟩
  · have q := s.a0 a h
    cases e : H0 a with
    | none => rw [e] at q; exact False.elim q
    | some o =>
      rw [s.same a o e]
      rw [e] at q
      exact q
  · obtain ⟨l, e, ho, es⟩ := h
    cases l with
    | sh d => cases ho
    | ol ds =>
      obtain ⟨b, vs, e1, h0, h1, _⟩ := s.ol i ds e
      rw [es] at e1
      cases e1
      rw [h1]
      exact True.intro
    | od ks ds =>
      obtain ⟨b, vs, e1, h0, h1, _⟩ := s.od i ks ds e
      rw [es] at e1
      cases e1
      rw [h1]
      exact True.intro
theorem StOk.avSome (s : StOk K H0 A0 H ρ σ) {lk : List Nat} {a : Addr} (h : Av A0 ρ σ lk a) : H a ≠ none := fun z => by
  have q := s.avMut h
  rw [z] at q
  exact q
theorem StOk.notAv (s : StOk K H0 A0 H ρ σ) {lk : List Nat} {a : Addr} (h : H a = none) : ¬ Av A0 ρ σ lk a := fun z => s.avSome z h
theorem Av.sub {lk lk' : List Nat} (h : ∀ i, i ∈ lk → i ∈ lk') {a : Addr} (z : Av A0 ρ σ lk' a) : Av A0 ρ σ lk a := by
  rcases z with z | ⟨i, n, z⟩
  · exact .inl z
  · exact .inr ⟨i, fun q => n (h i q), z⟩
theorem Av.nil {lk : List Nat} {a : Addr} (z : Av A0 ρ σ lk a) : Av A0 ρ σ [] a := Av.sub (lk := []) (lk' := lk) (fun _ q => nomatch q) z
theorem Av.base {lk : List Nat} {a : Addr} (z : A0 a) : Av A0 ρ σ lk a := .inl z
/-- the heap grows -/
theorem StOk.grow (s : StOk K H0 A0 H ρ σ) (hs : Same H H') : StOk K H0 A0 H' ρ σ where
  same := s.same.trans hs
  a0 := s.a0
  len := s.len
  sh := fun i d e => by
    obtain ⟨v, e1, r⟩ := s.sh i d e
    exact ⟨v, e1, r.same hs⟩
  ol := fun i ds e => by
    obtain ⟨a, vs, e1, h0, h1, r⟩ := s.ol i ds e
    exact ⟨a, vs, e1, h0, hs _ _ h1, r.same hs⟩
  od := fun i ks ds e => by
    obtain ⟨a, vs, e1, h0, h1, h2, r⟩ := s.od i ks ds e
    exact ⟨a, vs, e1, h0, hs _ _ h1, h2, r.same hs⟩
  ap := s.ap
/-- any slot's value as data -/
theorem StOk.val (s : StOk K H0 A0 H ρ σ) {i : Nat} {l : Lo} (e : ρ[i]? = some (some l)) : ∃ v, σ[i]? = some (some v) ∧ Rep K H (Av A0 ρ σ [i]) l.d v := by
  cases l with
  | sh d =>
    obtain ⟨v, e1, r⟩ := s.sh i d e
    exact ⟨v, e1, r.anti fun _ z => z.nil⟩
  | ol ds =>
    obtain ⟨a, vs, e1, h0, h1, r⟩ := s.ol i ds e
    refine ⟨_, e1, ?_⟩
    show Rep K H _ (.lst ds) _
    unfold Rep
    refine ⟨a, vs, rfl, fun z => ?_, h1, r.anti fun _ z => z.nil⟩
    rcases z with z | ⟨j, n, z⟩
    · have q := s.a0 a z
      rw [h0] at q
      exact q
    · have q := s.ap i j a ⟨_, e, rfl, e1⟩ z
      subst q
      exact n (List.mem_singleton.mpr rfl)
  | od ks ds =>
    obtain ⟨a, vs, e1, h0, h1, h2, r⟩ := s.od i ks ds e
    refine ⟨_, e1, ?_⟩
    show Rep K H _ (.dic ks ds) _
    unfold Rep
    refine ⟨a, vs, rfl, fun z => ?_, h1, h2, r.anti fun _ z => z.nil⟩
    rcases z with z | ⟨j, n, z⟩
    · have q := s.a0 a z
      rw [h0] at q
      exact q
    · have q := s.ap i j a ⟨_, e, rfl, e1⟩ z
      subst q
      exact n (List.mem_singleton.mpr rfl)
/-- a slot is given data that stands -/
theorem StOk.put (s : StOk K H0 A0 H ρ σ) {i : Nat} {d : Dt} {v : V} (r : Rep K H (Av A0 ρ σ []) d v) : StOk K H0 A0 H (ρ.set i (some (.sh d))) (σ.set i (some v)) := by
  have own : ∀ j a, OwnAt (ρ.set i (some (.sh d))) (σ.set i (some v)) j a → j ≠ i ∧ OwnAt ρ σ j a := by
    rintro j a ⟨l, e, ho, es⟩
    by_cases h : i = j
    · subst h
      by_cases hl : i < ρ.length
      · rw [List.getElem?_set_self hl] at e
        cases e
        cases ho
      · rw [List.getElem?_eq_none (by rw [List.length_set]; omega)] at e
        cases e
    · rw [List.getElem?_set_ne h] at e es
      exact ⟨fun z => h z.symm, l, e, ho, es⟩
  have av : ∀ a, Av A0 (ρ.set i (some (.sh d))) (σ.set i (some v)) [] a → Av A0 ρ σ [] a := by
    rintro a (z | ⟨j, n, z⟩)
    · exact .inl z
    · exact .inr ⟨j, n, (own j a z).2⟩
  refine ⟨s.same, s.a0, by rw [List.length_set, List.length_set]; exact s.len, fun j d' e => ?_, fun j ds e => ?_, fun j ks ds e => ?_, fun j k a h1 h2 => s.ap j k a (own j a h1).2 (own k a h2).2⟩
  · by_cases h : i = j
    · subst h
      have hl : i < ρ.length := by
        have := (List.getElem?_eq_some_iff.mp e).1
        rw [List.length_set] at this
        exact this
      rw [List.getElem?_set_self hl] at e
      cases e
      exact ⟨v, List.getElem?_set_self (by rw [s.len]; exact hl), r.anti av⟩
    · rw [List.getElem?_set_ne h] at e
      obtain ⟨u, e1, r1⟩ := s.sh j d' e
      exact ⟨u, by rw [List.getElem?_set_ne h]; exact e1, r1.anti av⟩
  · by_cases h : i = j
    · subst h
      have hl : i < ρ.length := by
        have := (List.getElem?_eq_some_iff.mp e).1
        rw [List.length_set] at this
        exact this
      rw [List.getElem?_set_self hl] at e
      cases e
    · rw [List.getElem?_set_ne h] at e
      obtain ⟨u, vs, e1, h0, h1, r1⟩ := s.ol j ds e
      exact ⟨u, vs, by rw [List.getElem?_set_ne h]; exact e1, h0, h1, r1.anti av⟩
  · by_cases h : i = j
    · subst h
      have hl : i < ρ.length := by
        have := (List.getElem?_eq_some_iff.mp e).1
        rw [List.length_set] at this
        exact this
      rw [List.getElem?_set_self hl] at e
      cases e
    · rw [List.getElem?_set_ne h] at e
      obtain ⟨u, vs, e1, h0, h1, h2, r1⟩ := s.od j ks ds e
      exact ⟨u, vs, by rw [List.getElem?_set_ne h]; exact e1, h0, h1, h2, r1.anti av⟩
theorem StOk.putAv {i : Nat} {d : Dt} {v : V} {lk : List Nat} {a : Addr} (z : Av A0 (ρ.set i (some (.sh d))) (σ.set i (some v)) lk a) : Av A0 ρ σ lk a := by
  rcases z with z | ⟨j, n, l, e, ho, es⟩
  · exact .inl z
  · refine .inr ⟨j, n, ?_⟩
    by_cases h : i = j
    · subst h
      by_cases hl : i < ρ.length
      · rw [List.getElem?_set_self hl] at e
        cases e
        cases ho
      · rw [List.getElem?_eq_none (by rw [List.length_set]; omega)] at e
        cases e
    · rw [List.getElem?_set_ne h] at e es
      exact ⟨l, e, ho, es⟩
theorem set_getElem? {α : Type} {l : List α} {i : Nat} {x : α} (h : l[i]? = some x) : l.set i x = l := by
  apply List.ext_getElem?
  intro j
  by_cases e : i = j
  · subst e
    rw [List.getElem?_set_self (List.getElem?_eq_some_iff.mp h).1, h]
  · rw [List.getElem?_set_ne e]
/-- a slot is frozen -/
theorem StOk.fz1 (s : StOk K H0 A0 H ρ σ) (i : Nat) : StOk K H0 A0 H (frz1 ρ i) σ ∧ ∀ lk a, Av A0 (FD.frz1 ρ i) σ lk a → Av A0 ρ σ (i :: lk) a := by
  unfold FD.frz1
  split
  · rename_i l e
    obtain ⟨v, e1, r⟩ := s.val e
    have own : ∀ j a, OwnAt (ρ.set i (some (.sh l.d))) σ j a → j ≠ i ∧ OwnAt ρ σ j a := by
      rintro j a ⟨l', e', ho, es⟩
      by_cases h : i = j
      · subst h
        rw [List.getElem?_set_self (List.getElem?_eq_some_iff.mp e).1] at e'
        cases e'
        cases ho
      · rw [List.getElem?_set_ne h] at e'
        exact ⟨fun z => h z.symm, l', e', ho, es⟩
    have av : ∀ lk a, Av A0 (ρ.set i (some (.sh l.d))) σ lk a → Av A0 ρ σ (i :: lk) a := by
      rintro lk a (z | ⟨j, n, z⟩)
      · exact .inl z
      · obtain ⟨ne, z⟩ := own j a z
        exact .inr ⟨j, fun q => (List.mem_cons.mp q).elim ne n, z⟩
    have av0 : ∀ a, Av A0 (ρ.set i (some (.sh l.d))) σ [] a → Av A0 ρ σ [] a := fun a z => (av [] a z).nil
    refine ⟨⟨s.same, s.a0, by rw [List.length_set]; exact s.len, fun j d' e' => ?_, fun j ds e' => ?_, fun j ks ds e' => ?_, fun j k a h1 h2 => s.ap j k a (own j a h1).2 (own k a h2).2⟩, av⟩
    · by_cases h : i = j
      · subst h
        rw [List.getElem?_set_self (List.getElem?_eq_some_iff.mp e).1] at e'
        cases e'
        exact ⟨v, e1, r.anti fun a z => av [] a z⟩
      · rw [List.getElem?_set_ne h] at e'
        obtain ⟨u, e2, r2⟩ := s.sh j d' e'
        exact ⟨u, e2, r2.anti av0⟩
    · by_cases h : i = j
      · subst h
        rw [List.getElem?_set_self (List.getElem?_eq_some_iff.mp e).1] at e'
        cases e'
      · rw [List.getElem?_set_ne h] at e'
        obtain ⟨u, vs, e2, h0, h1, r2⟩ := s.ol j ds e'
        exact ⟨u, vs, e2, h0, h1, r2.anti av0⟩
    · by_cases h : i = j
      · subst h
        rw [List.getElem?_set_self (List.getElem?_eq_some_iff.mp e).1] at e'
        cases e'
      · rw [List.getElem?_set_ne h] at e'
        obtain ⟨u, vs, e2, h0, h1, h2, r2⟩ := s.od j ks ds e'
        exact ⟨u, vs, e2, h0, h1, h2, r2.anti av0⟩
  · rename_i hn
    refine ⟨s, fun lk a z => ?_⟩
    rcases z with z | ⟨j, n, z⟩
    · exact .inl z
    · refine .inr ⟨j, fun q => (List.mem_cons.mp q).elim (fun e => ?_) n, z⟩
      subst e
      obtain ⟨l, e, _⟩ := z
      exact hn l e
theorem StOk.fz (s : StOk K H0 A0 H ρ σ) (lk : List Nat) : StOk K H0 A0 H (frz lk ρ) σ ∧ ∀ mk a, Av A0 (FD.frz lk ρ) σ mk a → Av A0 ρ σ (lk ++ mk) a := by
  induction lk generalizing ρ with
  | nil => exact ⟨s, fun mk a z => z⟩
  | cons i lk ih =>
    obtain ⟨s1, h1⟩ := s.fz1 i
    obtain ⟨s2, h2⟩ := ih s1
    exact ⟨s2, fun mk a z => h1 _ a (h2 mk a z)⟩
theorem frz_length (lk : List Nat) (ρ : Env) : (FD.frz lk ρ).length = ρ.length := by
  induction lk generalizing ρ with
  | nil => rfl
  | cons i lk ih =>
    rw [frz_cons, ih]
    unfold FD.frz1
    split
    · rw [List.length_set]
    · rfl
/-- a slot is given the value of an expression -/
theorem StOk.give (s : StOk K H0 A0 H ρ σ) {i : Nat} {d : Dt} {v : V} {lk : List Nat} (hs : Same H H') (r : Rep K H' (Av A0 ρ σ lk) d v) : StOk K H0 A0 H' ((frzD d lk ρ).set i (some (.sh d))) (σ.set i (some v)) := by
  unfold frzD
  split
  · rename_i hd
    exact (s.grow hs).put (Rep.pure (fun a z => (s.grow hs).avMut z) d v hd r)
  · obtain ⟨s1, h1⟩ := (s.grow hs).fz lk
    exact s1.put (r.anti fun a z => by have q := h1 [] a z; rwa [List.append_nil] at q)
/-- a slot is given a new list of its own -/
theorem StOk.giveL (s : StOk K H0 A0 H ρ σ) {i : Nat} {ds : List Dt} {vs : List V} {p : Addr} {lk : List Nat} (hs : Same H H') (hp : H p = none) (hp' : H' p = some (.lst vs)) (r : Reps K H' (fun a => Av A0 ρ σ lk a ∨ a = p) ds vs) :
    StOk K H0 A0 H' ((frz lk ρ).set i (some (.ol ds))) (σ.set i (some (.ref p))) := by
  obtain ⟨s1, h1⟩ := s.fz lk
  have hp0 : H0 p = none := s.same.free hp
  have own : ∀ j a, OwnAt ((frz lk ρ).set i (some (.ol ds))) (σ.set i (some (.ref p))) j a → (j ≠ i ∧ OwnAt (frz lk ρ) σ j a) ∨ (j = i ∧ a = p) := by
    rintro j a ⟨l, e, ho, es⟩
    by_cases h : i = j
    · subst h
      have hl : i < (frz lk ρ).length := by
        have := (List.getElem?_eq_some_iff.mp e).1
        rw [List.length_set] at this
        exact this
      rw [List.getElem?_set_self (by rw [s1.len]; exact hl)] at es
      cases es
      exact .inr ⟨rfl, rfl⟩
    · rw [List.getElem?_set_ne h] at e es
      exact .inl ⟨fun z => h z.symm, l, e, ho, es⟩
  have ne : ∀ j a, OwnAt (frz lk ρ) σ j a → a ≠ p := by
    rintro j a h rfl
    obtain ⟨⟨o, e⟩, _⟩ := s1.ownSome h
    rw [hp] at e
    cases e
  have av : ∀ a, Av A0 ((frz lk ρ).set i (some (.ol ds))) (σ.set i (some (.ref p))) [] a → Av A0 (frz lk ρ) σ [] a ∨ a = p := by
    rintro a (z | ⟨j, n, z⟩)
    · exact .inl (.inl z)
    · rcases own j a z with ⟨_, z⟩ | ⟨_, z⟩
      · exact .inl (.inr ⟨j, n, z⟩)
      · exact .inr z
  refine ⟨s.same.trans hs, s.a0, by rw [List.length_set, List.length_set]; exact s1.len, fun j d' e => ?_, fun j es e => ?_, fun j ks es e => ?_, fun j k a x1 x2 => ?_⟩
  · by_cases h : i = j
    · subst h
      have hl : i < (frz lk ρ).length := by
        have := (List.getElem?_eq_some_iff.mp e).1
        rw [List.length_set] at this
        exact this
      rw [List.getElem?_set_self hl] at e
      cases e
    · rw [List.getElem?_set_ne h] at e
      obtain ⟨u, e1, r1⟩ := s1.sh j d' e
      exact ⟨u, by rw [List.getElem?_set_ne h]; exact e1, ((Rep.fresh hp _ _ r1).same hs).anti av⟩
  · by_cases h : i = j
    · subst h
      have hl : i < (frz lk ρ).length := by
        have := (List.getElem?_eq_some_iff.mp e).1
        rw [List.length_set] at this
        exact this
      rw [List.getElem?_set_self hl] at e
      cases e
      refine ⟨p, vs, List.getElem?_set_self (by rw [s1.len]; exact hl), hp0, hp', r.anti fun a z => ?_⟩
      rcases av a z with z | z
      · have q := h1 [] a z
        rw [List.append_nil] at q
        exact .inl q
      · exact .inr z
    · rw [List.getElem?_set_ne h] at e
      obtain ⟨u, us, e1, h0, h1', r1⟩ := s1.ol j es e
      exact ⟨u, us, by rw [List.getElem?_set_ne h]; exact e1, h0, hs _ _ h1', ((Reps.fresh hp _ _ r1).same hs).anti av⟩
  · by_cases h : i = j
    · subst h
      have hl : i < (frz lk ρ).length := by
        have := (List.getElem?_eq_some_iff.mp e).1
        rw [List.length_set] at this
        exact this
      rw [List.getElem?_set_self hl] at e
      cases e
    · rw [List.getElem?_set_ne h] at e
      obtain ⟨u, us, e1, h0, h1', h2, r1⟩ := s1.od j ks es e
      exact ⟨u, us, by rw [List.getElem?_set_ne h]; exact e1, h0, hs _ _ h1', h2, ((Reps.fresh hp _ _ r1).same hs).anti av⟩
  · rcases own j a x1 with ⟨n1, x1⟩ | ⟨n1, y1⟩
    · rcases own k a x2 with ⟨n2, x2⟩ | ⟨n2, y2⟩
      · exact s1.ap j k a x1 x2
      · exact absurd y2 (ne j a x1)
    · rcases own k a x2 with ⟨n2, x2⟩ | ⟨n2, y2⟩
      · exact absurd y1 (ne k a x2)
      · rw [n1, n2]
/-- an own list changes -/
theorem StOk.mutL (s : StOk K H0 A0 H ρ σ) {i : Nat} {ds es : List Dt} {a : Addr} {us : List V} (e : ρ[i]? = some (some (.ol ds))) (hσ : σ[i]? = some (some (.ref a))) (r : Reps K H (Av A0 ρ σ []) es us) :
    StOk K H0 A0 (upd H a (.lst us)) (ρ.set i (some (.ol es))) σ := by
  obtain ⟨b, vs, e1, h0, h1, _⟩ := s.ol i ds e
  rw [hσ] at e1
  cases e1
  have hl : i < ρ.length := (List.getElem?_eq_some_iff.mp e).1
  have own : ∀ j c, OwnAt (ρ.set i (some (.ol es))) σ j c → OwnAt ρ σ j c := by
    rintro j c ⟨l, e', ho, es'⟩
    by_cases h : i = j
    · subst h
      exact ⟨_, e, rfl, es'⟩
    · rw [List.getElem?_set_ne h] at e'
      exact ⟨l, e', ho, es'⟩
  have av : ∀ c, Av A0 (ρ.set i (some (.ol es))) σ [] c → Av A0 ρ σ [] c := by
    rintro c (z | ⟨j, n, z⟩)
    · exact .inl z
    · exact .inr ⟨j, n, own j c z⟩
  have ava : Av A0 ρ σ [] a := .inr ⟨i, (fun z => nomatch z), _, e, rfl, hσ⟩
  have keep : ∀ b o, ¬ Av A0 ρ σ [] b → H b = some o → upd H a (.lst us) b = some o := fun b o n q => by
    rw [upd_ne (fun z => by subst z; exact n ava)]
    exact q
  refine ⟨fun b o q => ?_, s.a0, by rw [List.length_set]; exact s.len, fun j d' e' => ?_, fun j ds' e' => ?_, fun j ks ds' e' => ?_, fun j k c x y => s.ap j k c (own j c x) (own k c y)⟩
  · rw [upd_ne (ne_of_none q h0)]
    exact s.same b o q
  · by_cases h : i = j
    · subst h
      rw [List.getElem?_set_self hl] at e'
      cases e'
    · rw [List.getElem?_set_ne h] at e'
      obtain ⟨u, e2, r2⟩ := s.sh j d' e'
      exact ⟨u, e2, Rep.mono keep av _ _ r2⟩
  · by_cases h : i = j
    · subst h
      rw [List.getElem?_set_self hl] at e'
      cases e'
      exact ⟨a, us, hσ, h0, upd_same, Reps.mono keep av _ _ r⟩
    · rw [List.getElem?_set_ne h] at e'
      obtain ⟨u, ws, e2, h0', h1', r2⟩ := s.ol j ds' e'
      refine ⟨u, ws, e2, h0', ?_, Reps.mono keep av _ _ r2⟩
      rw [upd_ne (fun z => by subst z; exact h (s.ap i j u ⟨_, e, rfl, hσ⟩ ⟨_, e', rfl, e2⟩))]
      exact h1'
  · by_cases h : i = j
    · subst h
      rw [List.getElem?_set_self hl] at e'
      cases e'
    · rw [List.getElem?_set_ne h] at e'
      obtain ⟨u, ws, e2, h0', h1', h2', r2⟩ := s.od j ks ds' e'
      refine ⟨u, ws, e2, h0', ?_, h2', Reps.mono keep av _ _ r2⟩
      rw [upd_ne (fun z => by subst z; exact h (s.ap i j u ⟨_, e, rfl, hσ⟩ ⟨_, e', rfl, e2⟩))]
      exact h1'
end
end FD

namespace FD
open PySem L2

/-! ### what is wanted behind -/
/-- an exception of the class at c, with its own dict od, is x -/
def NoA : Ad := fun _ => False
def ExOk (K : PySem.W.Frag) (H : Hp) (x : Exn) (c : Value) (od : Option Addr) : Prop :=
  c = .ref x.cls ∧ Dt.pures (x.fs.map (·.2)) = true ∧ match od with
    | none => x.fs = []
    | some d => ∃ fs : List (Str × V), H d = some (.xd fs) ∧ fs.map (·.1) = x.fs.map (·.1) ∧ Reps K H NoA (x.fs.map (·.2)) (fs.map (·.2))
/-- R of what comes, the wish W of what is raised -/
def PostX (K : PySem.W.Frag) (W : WX) (H : Hp) (σ : L2.St) {α : Type} (o : Out α) (R : α → Prop) : Prop := match o with
  | .ok a => R a
  | .exc x => ∀ c od H', Same H H' → ExOk K H' x c od → W c od σ H'
  | .bad => False
def RE (K : PySem.W.Frag) (A : Ad) (H : Hp) (Q : VK) (d : Dt) : Prop := ∀ v H', Same H H' → Rep K H' A d v → Q v H'
def RL (K : PySem.W.Frag) (A : Ad) (H : Hp) (Q : VK) (ds : List Dt) : Prop := ∀ p vs H', Same H H' → H p = none → H' p = some (.lst vs) → Reps K H' (fun a => A a ∨ a = p) ds vs → Q (.ref p) H'
def RA (K : PySem.W.Frag) (A : Ad) (H : Hp) (Q : List V → Hp → Prop) (ds : List Dt) : Prop := ∀ vs H', Same H H' → Reps K H' A ds vs → Q vs H'
def RT (H : Hp) (Q : Bool → Hp → Prop) (b : Bool) : Prop := ∀ H', Same H H' → Q b H'
def TED (K : PySem.W.Frag) (W : WX) (te : TE) (f : Env → Out Dt) (lk : List Nat) : Prop :=
  ∀ (H0 : Hp) (A0 : Ad) (ρ : Env) (σ : L2.St) (H : Hp) (Q : VK), StOk K H0 A0 H ρ σ → PostX K W H σ (f ρ) (RE K (Av A0 ρ σ lk) H Q) → te σ H Q
def TLD (K : PySem.W.Frag) (W : WX) (te : TE) (f : Env → Out (List Dt)) (lk : List Nat) : Prop :=
  ∀ (H0 : Hp) (A0 : Ad) (ρ : Env) (σ : L2.St) (H : Hp) (Q : VK), StOk K H0 A0 H ρ σ → PostX K W H σ (f ρ) (RL K (Av A0 ρ σ lk) H Q) → te σ H Q
def TAD (K : PySem.W.Frag) (W : WX) (ta : TA) (f : Env → Out (List Dt)) (lk : List Nat) : Prop :=
  ∀ (H0 : Hp) (A0 : Ad) (ρ : Env) (σ : L2.St) (H : Hp) (Q : List V → Hp → Prop), StOk K H0 A0 H ρ σ → PostX K W H σ (f ρ) (RA K (Av A0 ρ σ lk) H Q) → ta σ H Q
def TTD (K : PySem.W.Frag) (W : WX) (tt : TT) (f : Env → Out Bool) (lk : List Nat) : Prop :=
  ∀ (H0 : Hp) (A0 : Ad) (ρ : Env) (σ : L2.St) (H : Hp) (Q : Bool → Hp → Prop), StOk K H0 A0 H ρ σ → PostX K W H σ (f ρ) (RT H Q) → tt σ H Q
def PED (X : Cx) (W : WX) (e : Expr) (f : Env → Out Dt) (lk : List Nat) : Prop := ∃ te, PE X e te ∧ TED X.K W te f lk
def PLD (X : Cx) (W : WX) (e : Expr) (f : Env → Out (List Dt)) (lk : List Nat) : Prop := ∃ te, PE X e te ∧ TLD X.K W te f lk
def PAD (X : Cx) (W : WX) (es : List Expr) (f : Env → Out (List Dt)) (lk : List Nat) : Prop := ∃ ta, PA X es ta ∧ TAD X.K W ta f lk
def PTD (X : Cx) (W : WX) (e : Expr) (f : Env → Out Bool) (lk : List Nat) : Prop := ∃ tt, PT X e tt ∧ TTD X.K W tt f lk
def PWD (X : Cx) (W : WX) (e : Expr) (f : Env → Out Bool) (lk : List Nat) : Prop := ∃ tt, PW X e tt ∧ TTD X.K W tt f lk

section
variable {K : PySem.W.Frag} {W : WX} {H0 H H1 H2 : Hp} {A A' A0 : Ad} {ρ : Env} {σ : L2.St} {lk la lb lc mk : List Nat} {Q : VK} {d : Dt} {v : V} {x : Exn} {α β : Type}
theorem ExOk.same {c : Value} {od : Option Addr} (hs : Same H H1) (h : ExOk K H x c od) : ExOk K H1 x c od := by
  obtain ⟨e, p, h⟩ := h
  refine ⟨e, p, ?_⟩
  cases od with
  | none => exact h
  | some d =>
    obtain ⟨fs, h1, h3, h4⟩ := h
    exact ⟨fs, hs _ _ h1, h3, h4.same hs⟩
theorem PostX.grow {o : Out α} {R : α → Prop} (hs : Same H H1) (h : PostX K W H σ o R) : PostX K W H1 σ o R := by
  cases o with
  | ok d => exact h
  | exc x => exact fun c od H' s r => h c od H' (hs.trans s) r
  | bad => exact h
/-- behind the first of two -/
theorem PostX.seq {o : Out α} {g : α → Out β} {R : β → Prop} {R' : α → Prop} (h : PostX K W H σ (o.bind g) R) (hk : ∀ a, o = .ok a → PostX K W H σ (g a) R → R' a) : PostX K W H σ o R' := by
  cases o with
  | ok d => exact hk d rfl h
  | exc x => exact h
  | bad => exact h
theorem PostX.imp {o : Out α} {R R' : α → Prop} (h : PostX K W H σ o R) (hk : ∀ a, o = .ok a → R a → R' a) : PostX K W H σ o R' := by
  cases o with
  | ok d => exact hk d rfl h
  | exc x => exact h
  | bad => exact h
theorem avL {a : Addr} (z : Av A0 ρ σ (la ++ lb) a) : Av A0 ρ σ la a := Av.sub (fun _ h => List.mem_append_left _ h) z
theorem avR {a : Addr} (z : Av A0 ρ σ (la ++ lb) a) : Av A0 ρ σ lb a := Av.sub (fun _ h => List.mem_append_right _ h) z

/-! ### combinators of meanings -/
def ofO {α : Type} : Option α → Out α
  | some a => .ok a
  | none => .bad
@[simp] theorem ofO_some {α : Type} (a : α) : ofO (some a) = .ok a := rfl
@[simp] theorem ofO_none {α : Type} : (ofO none : Out α) = .bad := rfl
def eVar (i : Nat) : Env → Out Dt := fun ρ => match ρ[i]? with
  | some (some l) => .ok l.d
  | _ => .bad
def eC (d : Dt) : Env → Out Dt := fun _ => .ok d
def e1 (fa : Env → Out Dt) (g : Dt → Option Dt) : Env → Out Dt := fun ρ => (fa ρ).bind fun a => ofO (g a)
def e2 (fa fb : Env → Out Dt) (g : Dt → Dt → Option Dt) : Env → Out Dt := fun ρ => (fa ρ).bind fun a => (fb ρ).bind fun b => ofO (g a b)
def t2 (fa fb : Env → Out Dt) (g : Dt → Dt → Option Bool) : Env → Out Bool := fun ρ => (fa ρ).bind fun a => (fb ρ).bind fun b => ofO (g a b)
def t1 (fa : Env → Out Dt) (g : Dt → Option Bool) : Env → Out Bool := fun ρ => (fa ρ).bind fun a => ofO (g a)
def eT (ft : Env → Out Bool) : Env → Out Dt := fun ρ => (ft ρ).bind fun b => .ok (.bl b)
def tAndD (f g : Env → Out Bool) : Env → Out Bool := fun ρ => (f ρ).bind fun b => if b = true then g ρ else .ok false
def tOrD (f g : Env → Out Bool) : Env → Out Bool := fun ρ => (f ρ).bind fun b => if b = true then .ok true else g ρ
def tNotD (f : Env → Out Bool) : Env → Out Bool := fun ρ => (f ρ).bind fun b => .ok (!b)
def eIfD (c : Env → Out Bool) (f g : Env → Out Dt) : Env → Out Dt := fun ρ => (c ρ).bind fun b => if b = true then f ρ else g ρ
def aNil : Env → Out (List Dt) := fun _ => .ok []
def aCons (f : Env → Out Dt) (g : Env → Out (List Dt)) : Env → Out (List Dt) := fun ρ => (f ρ).bind fun d => (g ρ).bind fun ds => .ok (d :: ds)
def eTup (f : Env → Out (List Dt)) : Env → Out Dt := fun ρ => (f ρ).bind fun ds => if ds.length ≤ 16777216 then .ok (.tup ds) else .bad
def lLst (f : Env → Out (List Dt)) : Env → Out (List Dt) := fun ρ => (f ρ).bind fun ds => if ds.length ≤ 16777216 then .ok ds else .bad
def eL (f : Env → Out (List Dt)) : Env → Out Dt := fun ρ => (f ρ).bind fun ds => .ok (.lst ds)

/-! ### operations on values -/
def OpV (K : PySem.W.Frag) (r : R2) (g : Dt → Dt → Option Dt) : Prop := ∀ (H : Hp) (A : Ad) (a b d : Dt) (x y : V) (Q : VK), (∀ c, A c → H c ≠ none) → Rep K H A a x → Rep K H A b y → g a b = some d → RE K A H Q d → r x y H Q
def UnV (K : PySem.W.Frag) (r : V → Hp → VK → Prop) (g : Dt → Option Dt) : Prop := ∀ (H : Hp) (A : Ad) (a d : Dt) (x : V) (Q : VK), (∀ c, A c → H c ≠ none) → Rep K H A a x → g a = some d → RE K A H Q d → r x H Q
def OpT (K : PySem.W.Frag) (r : R2) (g : Dt → Dt → Option Bool) : Prop := ∀ (H : Hp) (A : Ad) (a b : Dt) (d : Bool) (x y : V) (Q : VK), Rep K H A a x → Rep K H A b y → g a b = some d → Q (.bl d) H → r x y H Q
theorem OpV.or {r r' : R2} {g g' : Dt → Dt → Option Dt} (h : OpV K r g) (h' : OpV K r' g') : OpV K (fun x y H Q => r x y H Q ∨ r' x y H Q) (fun a b => (g a b).orElse fun _ => g' a b) := by
  intro H A a b d x y Q ha ra rb e q
  cases e1 : g a b with
  | some d' =>
    simp only [e1, Option.orElse] at e
    cases e
    exact .inl (h H A a b d x y Q ha ra rb e1 q)
  | none =>
    simp only [e1, Option.orElse] at e
    exact .inr (h' H A a b d x y Q ha ra rb e q)
theorem OpT.or {r r' : R2} {g g' : Dt → Dt → Option Bool} (h : OpT K r g) (h' : OpT K r' g') : OpT K (fun x y H Q => r x y H Q ∨ r' x y H Q) (fun a b => (g a b).orElse fun _ => g' a b) := by
  intro H A a b d x y Q ra rb e q
  cases e1 : g a b with
  | some d' =>
    simp only [e1, Option.orElse] at e
    cases e
    exact .inl (h H A a b d x y Q ra rb e1 q)
  | none =>
    simp only [e1, Option.orElse] at e
    exact .inr (h' H A a b d x y Q ra rb e q)

theorem ofO_seq {o : Option α} {R : α → Prop} (h : PostX K W H σ (ofO o) R) : ∃ a, o = some a ∧ R a := by
  cases o with
  | some a => exact ⟨a, rfl, h⟩
  | none => exact False.elim h
theorem RE.grow (hs : Same H H1) (h : RE K A H Q d) : RE K A H1 Q d := fun v H' s r => h v H' (hs.trans s) r
theorem RE.now (h : RE K A H Q d) (r : Rep K H A d v) : Q v H := h v H (Same.refl H) r
theorem ted_var (i : Nat) : TED K W (tVar i) (eVar i) [i] := by
  intro H0 A0 ρ σ H Q s h
  unfold eVar at h
  split at h
  · rename_i l e
    obtain ⟨v, e1, r⟩ := s.val e
    exact ⟨v, e1, RE.now h r⟩
  · exact False.elim h
theorem ted_c {v : V} {d : Dt} (hr : ∀ H A, Rep K H A d v) : TED K W (tC v) (eC d) [] := fun H0 A0 ρ σ H Q s h => RE.now h (hr _ _)
/-- two operands, an operation -/
theorem ted_2 {ta tb : TE} {fa fb : Env → Out Dt} {g : Dt → Dt → Option Dt} {r : R2} (hr : OpV K r g) (ha : TED K W ta fa la) (hb : TED K W tb fb lb) : TED K W (tOp r ta tb) (e2 fa fb g) (la ++ lb) := by
  intro H0 A0 ρ σ H Q s h
  refine ha _ _ _ _ _ _ s (h.seq fun a _ h1 v1 H1 s1 r1 => ?_)
  refine hb _ _ _ _ _ _ (s.grow s1) ((h1.grow s1).seq fun b _ h2 v2 H2 s2 r2 => ?_)
  obtain ⟨d, e, q⟩ := ofO_seq h2
  exact hr H2 _ a b d v1 v2 Q (fun c z => (s.grow (s1.trans s2)).avSome z) ((r1.same s2).anti fun _ => avL) (r2.anti fun _ => avR) e (RE.grow (s1.trans s2) q)
theorem Rep.noA (h : Rep K H A d v) : Rep K H NoA d v := h.anti fun _ z => False.elim z
/-- .. where what comes is a number, a text, .. -/
theorem ted_2s {ta tb : TE} {fa fb : Env → Out Dt} {g : Dt → Dt → Option Dt} {r : R2} (hr : OpV K r g) (hg : ∀ a b d, g a b = some d → d.scal = true) (ha : TED K W ta fa la) (hb : TED K W tb fb lb) : TED K W (tOp r ta tb) (e2 fa fb g) [] := by
  intro H0 A0 ρ σ H Q s h
  refine ha _ _ _ _ _ _ s (h.seq fun a _ h1 v1 H1 s1 r1 => ?_)
  refine hb _ _ _ _ _ _ (s.grow s1) ((h1.grow s1).seq fun b _ h2 v2 H2 s2 r2 => ?_)
  obtain ⟨d, e, q⟩ := ofO_seq h2
  refine hr H2 NoA a b d v1 v2 Q (fun c z => False.elim z) (r1.same s2).noA r2.noA e fun v H' s' r => ?_
  exact q v H' ((s1.trans s2).trans s') (r.scal (hg _ _ _ e))
theorem ted_1 {ta : TE} {fa : Env → Out Dt} {g : Dt → Option Dt} {r : V → Hp → VK → Prop} (hr : UnV K r g) (ha : TED K W ta fa la) : TED K W (tUn r ta) (e1 fa g) la := by
  intro H0 A0 ρ σ H Q s h
  refine ha _ _ _ _ _ _ s (h.seq fun a _ h1 v1 H1 s1 r1 => ?_)
  obtain ⟨d, e, q⟩ := ofO_seq h1
  exact hr H1 _ a d v1 Q (fun c z => (s.grow s1).avSome z) r1 e (RE.grow s1 q)
/-- a comparison as a test, as a value -/
theorem ttd_2 {ta tb : TE} {fa fb : Env → Out Dt} {g : Dt → Dt → Option Bool} {r : R2} (hr : OpT K r g) (ha : TED K W ta fa la) (hb : TED K W tb fb lb) : TTD K W (tTest (tOp r ta tb)) (t2 fa fb g) [] := by
  intro H0 A0 ρ σ H Q s h
  refine ha _ _ _ _ _ _ s (h.seq fun a _ h1 v1 H1 s1 r1 => ?_)
  refine hb _ _ _ _ _ _ (s.grow s1) ((h1.grow s1).seq fun b _ h2 v2 H2 s2 r2 => ?_)
  obtain ⟨d, e, q⟩ := ofO_seq h2
  exact hr H2 NoA a b d v1 v2 _ (r1.same s2).noA r2.noA e ⟨d, rfl, q H2 (s1.trans s2)⟩
theorem ted_cmp {ta tb : TE} {fa fb : Env → Out Dt} {g : Dt → Dt → Option Bool} {r : R2} (hr : OpT K r g) (ha : TED K W ta fa la) (hb : TED K W tb fb lb) : TED K W (tOp r ta tb) (eT (t2 fa fb g)) [] := by
  intro H0 A0 ρ σ H Q s h
  unfold eT t2 at h
  rw [Out.bind_assoc] at h
  refine ha _ _ _ _ _ _ s (h.seq fun a _ h1 v1 H1 s1 r1 => ?_)
  rw [Out.bind_assoc] at h1
  refine hb _ _ _ _ _ _ (s.grow s1) ((h1.grow s1).seq fun b _ h2 v2 H2 s2 r2 => ?_)
  cases e : g a b with
  | none =>
    rw [e] at h2
    exact False.elim h2
  | some d =>
    rw [e] at h2
    exact hr H2 NoA a b d v1 v2 _ (r1.same s2).noA r2.noA e (h2 (.bl d) H2 (s1.trans s2) rfl)
theorem ttd_and {ta tb : TT} {fa fb : Env → Out Bool} (ha : TTD K W ta fa la) (hb : TTD K W tb fb lb) : TTD K W (tAnd ta tb) (tAndD fa fb) [] := by
  intro H0 A0 ρ σ H Q s h
  refine ha _ _ _ _ _ _ s (h.seq fun b _ h1 H1 s1 => ?_)
  cases b with
  | true => exact hb _ _ _ _ _ _ (s.grow s1) ((h1.grow s1).imp fun c _ q H2 s2 => q H2 (s1.trans s2))
  | false => exact h1 H1 s1
theorem ttd_or {ta tb : TT} {fa fb : Env → Out Bool} (ha : TTD K W ta fa la) (hb : TTD K W tb fb lb) : TTD K W (tOr ta tb) (tOrD fa fb) [] := by
  intro H0 A0 ρ σ H Q s h
  refine ha _ _ _ _ _ _ s (h.seq fun b _ h1 H1 s1 => ?_)
  cases b with
  | false => exact hb _ _ _ _ _ _ (s.grow s1) ((h1.grow s1).imp fun c _ q H2 s2 => q H2 (s1.trans s2))
  | true => exact h1 H1 s1
theorem ttd_not {ta : TT} {fa : Env → Out Bool} (ha : TTD K W ta fa la) : TTD K W (tNot ta) (tNotD fa) [] := by
  intro H0 A0 ρ σ H Q s h
  exact ha _ _ _ _ _ _ s (h.seq fun b _ h1 H1 s1 => h1 H1 s1)
theorem ted_if {tc : TT} {ta tb : TE} {fc : Env → Out Bool} {fa fb : Env → Out Dt} (hc : TTD K W tc fc lc) (ha : TED K W ta fa la) (hb : TED K W tb fb lb) : TED K W (tIf tc ta tb) (eIfD fc fa fb) (la ++ lb) := by
  intro H0 A0 ρ σ H Q s h
  refine hc _ _ _ _ _ _ s (h.seq fun b _ h1 H1 s1 => ?_)
  cases b with
  | true => exact ha _ _ _ _ _ _ (s.grow s1) ((h1.grow s1).imp fun c _ q v H2 s2 r => q v H2 (s1.trans s2) (r.anti fun _ => avL))
  | false => exact hb _ _ _ _ _ _ (s.grow s1) ((h1.grow s1).imp fun c _ q v H2 s2 r => q v H2 (s1.trans s2) (r.anti fun _ => avR))
theorem tad_nil : TAD K W tNil aNil [] := fun H0 A0 ρ σ H Q s h => h [] H (Same.refl H) Reps.nil
theorem tad_cons {ta : TE} {tr : TA} {f : Env → Out Dt} {g : Env → Out (List Dt)} (ha : TED K W ta f la) (hr : TAD K W tr g lb) : TAD K W (tCons ta tr) (aCons f g) (la ++ lb) := by
  intro H0 A0 ρ σ H Q s h
  refine ha _ _ _ _ _ _ s (h.seq fun a _ h1 v1 H1 s1 r1 => ?_)
  refine hr _ _ _ _ _ _ (s.grow s1) ((h1.grow s1).seq fun b _ h2 v2 H2 s2 r2 => ?_)
  exact h2 _ H2 (s1.trans s2) (Reps.cons ((r1.same s2).anti fun _ => avL) (r2.anti fun _ => avR))
theorem Same.new {p : Addr} {o : HO} (h : H p = none) : Same H (upd H p o) := fun a u e => by
  rw [upd_ne (ne_of_none e h)]
  exact e
theorem ted_tup {ta : TA} {f : Env → Out (List Dt)} (ha : TAD K W ta f la) : TED K W (tTup ta) (eTup f) la := by
  intro H0 A0 ρ σ H Q s h
  refine ha _ _ _ _ _ _ s (h.seq fun ds _ h1 vs H1 s1 r1 => ?_)
  split at h1
  · rename_i hl
    refine ⟨by rw [r1.length, sizeLine_eq]; exact hl, fun p hp => h1 _ _ (s1.trans (Same.new hp)) ?_⟩
    unfold Rep
    exact ⟨p, vs, rfl, .inl ⟨(s.grow s1).notAv hp, upd_same⟩, r1.same (Same.new hp)⟩
  · exact False.elim h1
theorem tld_lst {ta : TA} {f : Env → Out (List Dt)} (ha : TAD K W ta f la) : TLD K W (tLst ta) (lLst f) la := by
  intro H0 A0 ρ σ H Q s h
  refine ha _ _ _ _ _ _ s (h.seq fun ds _ h1 vs H1 s1 r1 => ?_)
  split at h1
  · rename_i hl
    refine ⟨by rw [r1.length, sizeLine_eq]; exact hl, fun p hp => h1 p vs _ (s1.trans (Same.new hp)) (s1.free hp) upd_same ?_⟩
    exact (Reps.fresh hp _ _ r1).same (Same.new hp)
  · exact False.elim h1
/-- a new list as data -/
theorem ted_l {te : TE} {f : Env → Out (List Dt)} (ha : TLD K W te f la) : TED K W te (eL f) la := by
  intro H0 A0 ρ σ H Q s h
  refine ha _ _ _ _ _ _ s (h.seq fun ds _ h1 p vs H1 s1 hp hp' r => h1 _ H1 s1 ?_)
  unfold Rep
  exact ⟨p, vs, rfl, s.notAv hp, hp', r.anti fun _ z => .inl z⟩
end
end FD

namespace FD
open PySem L2
/-! ### what operators give -/
theorem some_ite {α : Type} {c : Prop} [Decidable c] {a b : α} (h : (if c then some a else none) = some b) : c ∧ a = b := by
  split at h
  · exact ⟨‹_›, Option.some.inj h⟩
  · cases h
/-- two ints -/
def gI (C : Int → Int → Bool) (f : Int → Int → Int) : Dt → Dt → Option Dt
  | .int i, .int j => if C i j = true then some (.int (f i j)) else none
  | _, _ => none
def gI0 (f : Int → Int → Int) : Dt → Dt → Option Dt
  | .int i, .int j => some (.int (f i j))
  | _, _ => none
def cI (f : Int → Int → Bool) : Dt → Dt → Option Bool
  | .int i, .int j => some (f i j)
  | _, _ => none
@[simp] theorem gI_int (C : Int → Int → Bool) (f : Int → Int → Int) (i j : Int) : gI C f (.int i) (.int j) = if C i j = true then some (.int (f i j)) else none := rfl
@[simp] theorem gI0_int (f : Int → Int → Int) (i j : Int) : gI0 f (.int i) (.int j) = some (.int (f i j)) := rfl
@[simp] theorem cI_int (f : Int → Int → Bool) (i j : Int) : cI f (.int i) (.int j) = some (f i j) := rfl
def gStrA : Dt → Dt → Option Dt
  | .str x, .str y => if x.length + y.length ≤ 16777216 then some (.str (x ++ y)) else none
  | _, _ => none
def gLstA : Dt → Dt → Option Dt
  | .lst x, .lst y => if x.length + y.length ≤ 16777216 then some (.lst (x ++ y)) else none
  | _, _ => none
def gTupA : Dt → Dt → Option Dt
  | .tup x, .tup y => if x.length + y.length ≤ 16777216 ∧ x ≠ [] then some (.tup (x ++ y)) else none
  | _, _ => none
section
variable {K : PySem.W.Frag} {H : Hp} {A : Ad}
theorem gI_inv {C : Int → Int → Bool} {f : Int → Int → Int} {a b d : Dt} (h : gI C f a b = some d) : ∃ i j, a = .int i ∧ b = .int j ∧ C i j = true ∧ d = .int (f i j) := by
  cases a <;> cases b <;> try (cases h; done)
  rename_i i j
  obtain ⟨h1, h2⟩ := some_ite h
  exact ⟨i, j, rfl, rfl, h1, h2.symm⟩
theorem gI0_inv {f : Int → Int → Int} {a b d : Dt} (h : gI0 f a b = some d) : ∃ i j, a = .int i ∧ b = .int j ∧ d = .int (f i j) := by
  cases a <;> cases b <;> try (cases h; done)
  rename_i i j
  cases h
  exact ⟨i, j, rfl, rfl, rfl⟩
theorem cI_inv {f : Int → Int → Bool} {a b : Dt} {d : Bool} (h : cI f a b = some d) : ∃ i j, a = .int i ∧ b = .int j ∧ d = f i j := by
  cases a <;> cases b <;> try (cases h; done)
  rename_i i j
  cases h
  exact ⟨i, j, rfl, rfl, rfl⟩
theorem opv_I {C : Int → Int → Bool} {C' : Int → Int → Prop} {f : Int → Int → Int} (hc : ∀ i j, C i j = true → C' i j) : OpV K (rI C' fun i j => .int (f i j)) (gI C f) := by
  intro H A a b d x y Q _ ra rb e q
  obtain ⟨i, j, rfl, rfl, c, rfl⟩ := gI_inv e
  exact ⟨i, j, ra, rb, hc i j c, RE.now q rfl⟩
theorem opv_I0 {f : Int → Int → Int} : OpV K (rI0 fun i j => .int (f i j)) (gI0 f) := by
  intro H A a b d x y Q _ ra rb e q
  obtain ⟨i, j, rfl, rfl, rfl⟩ := gI0_inv e
  exact ⟨i, j, ra, rb, RE.now q rfl⟩
theorem opt_I0 {f : Int → Int → Bool} : OpT K (rI0 fun i j => .bl (f i j)) (cI f) := by
  intro H A a b d x y Q ra rb e q
  obtain ⟨i, j, rfl, rfl, rfl⟩ := cI_inv e
  exact ⟨i, j, ra, rb, q⟩
def rStrAdd : R2 := fun x y H Q => ∃ i j, x = .str i ∧ y = .str j ∧ i.length + j.length ≤ sizeLine ∧ Q (.str (i ++ j)) H
theorem opv_str : OpV K rStrAdd gStrA := by
  intro H A a b d x y Q _ ra rb e q
  cases a <;> cases b <;> try (cases e; done)
  rename_i i j
  obtain ⟨h1, rfl⟩ := some_ite e
  exact ⟨i, j, ra, rb, by rw [sizeLine_eq]; exact h1, RE.now q rfl⟩
theorem opv_lst : OpV K rCat gLstA := by
  intro H A a b d x y Q ha ra rb e q
  cases a <;> cases b <;> try (cases e; done)
  rename_i ds es
  obtain ⟨h1, rfl⟩ := some_ite e
  unfold Rep at ra rb
  obtain ⟨p, vs, rfl, np, hp, rp⟩ := ra
  obtain ⟨p', us, rfl, np', hp', rp'⟩ := rb
  refine ⟨p, p', vs, us, rfl, rfl, hp, hp', by rw [rp.length, rp'.length, sizeLine_eq]; exact h1, fun c hc => q _ _ (Same.new hc) ?_⟩
  unfold Rep
  refine ⟨c, vs ++ us, rfl, fun z => ha c z hc, upd_same, (Reps.append rp rp').same (Same.new hc)⟩
theorem SqT.of' {a : Addr} {vs : List V} (h : (¬ A a ∧ H a = some (.tup vs)) ∨ KTup K a vs) : SqT K H a vs := by
  rcases h with ⟨_, h⟩ | h
  · exact SqT.of h
  · exact .inr h
theorem opv_tup : OpV K (rCatT K) gTupA := by
  intro H A a b d x y Q ha ra rb e q
  cases a <;> cases b <;> try (cases e; done)
  rename_i ds es
  obtain ⟨⟨h1, h2⟩, rfl⟩ := some_ite e
  have ra' := ra
  unfold Rep at ra rb
  obtain ⟨p, vs, rfl, hp, rp⟩ := ra
  obtain ⟨p', us, rfl, hp', rp'⟩ := rb
  have nv : vs ≠ [] := by
    rintro rfl
    have := rp.length
    simp at this
    exact h2 (List.length_eq_zero_iff.mp this.symm)
  refine ⟨p, p', vs, us, rfl, rfl, SqT.of' hp, SqT.of' hp', nv, by rw [rp.length, rp'.length, sizeLine_eq]; exact h1, ?_⟩
  refine ⟨fun hu => ?_, fun _ => ?_⟩
  · subst hu
    have : es = [] := by
      have := rp'.length
      simp at this
      exact List.length_eq_zero_iff.mp this.symm
    subst this
    rw [List.append_nil] at q
    exact RE.now q ra'
  · intro c hc
    refine q _ _ (Same.new hc) ?_
    unfold Rep
    exact ⟨c, vs ++ us, rfl, .inl ⟨fun z => ha c z hc, upd_same⟩, (Reps.append rp rp').same (Same.new hc)⟩
end
section
variable {X : Cx} {pos : Pos} {a b e : Expr} {W : WX} {fa fb fc : Env → Out Dt} {la lb lc : List Nat}
/-! + -/
def gAdd : Dt → Dt → Option Dt := fun a b => (gI0 (· + ·) a b).orElse fun _ => (gStrA a b).orElse fun _ => (gLstA a b).orElse fun _ => gTupA a b
@[simp] theorem gAdd_int (i j : Int) : gAdd (.int i) (.int j) = some (.int (i + j)) := rfl
@[simp] theorem gAdd_str (i j : Str) : gAdd (.str i) (.str j) = if i.length + j.length ≤ 16777216 then some (.str (i ++ j)) else none := by
  show ((if i.length + j.length ≤ 16777216 then some (Dt.str (i ++ j)) else none).orElse fun _ => none) = _
  split <;> rfl
@[simp] theorem gAdd_lst (i j : List Dt) : gAdd (.lst i) (.lst j) = if i.length + j.length ≤ 16777216 then some (.lst (i ++ j)) else none := by
  show ((if i.length + j.length ≤ 16777216 then some (Dt.lst (i ++ j)) else none).orElse fun _ => none) = _
  split <;> rfl
@[simp] theorem gAdd_tup (i j : List Dt) : gAdd (.tup i) (.tup j) = if i.length + j.length ≤ 16777216 ∧ i ≠ [] then some (.tup (i ++ j)) else none := by
  rfl
theorem op_addA : OpR X (binaryOp .Add) (fun x y H Q => rI0 (fun i j => .int (i + j)) x y H Q ∨ (rStrAdd x y H Q ∨ (rCat x y H Q ∨ rCatT X.K x y H Q))) := op_add.or (op_add_str.or (op_cat.or op_catT))
theorem pd_add (ha : PED X W a fa la) (hb : PED X W b fb lb) : PED X W (.BinOp a .Add b pos) (e2 fa fb gAdd) (la ++ lb) := by
  obtain ⟨ta, pa, da⟩ := ha
  obtain ⟨tb, pb, db⟩ := hb
  exact ⟨_, pe_op op_addA pa pb, ted_2 (OpV.or opv_I0 (OpV.or opv_str (OpV.or opv_lst opv_tup))) da db⟩
theorem gI0_scal {f : Int → Int → Int} : ∀ a b d, gI0 f a b = some d → d.scal = true := fun a b d h => by
  obtain ⟨i, j, _, _, rfl⟩ := gI0_inv h
  rfl
theorem gI_scal {C : Int → Int → Bool} {f : Int → Int → Int} : ∀ a b d, gI C f a b = some d → d.scal = true := fun a b d h => by
  obtain ⟨i, j, _, _, _, rfl⟩ := gI_inv h
  rfl
theorem pd_sub (ha : PED X W a fa la) (hb : PED X W b fb lb) : PED X W (.BinOp a .Sub b pos) (e2 fa fb (gI0 (· - ·))) [] := by
  obtain ⟨ta, pa, da⟩ := ha
  obtain ⟨tb, pb, db⟩ := hb
  exact ⟨_, pe_op op_sub pa pb, ted_2s opv_I0 gI0_scal da db⟩
/-- the size of a product -/
def mulB (i j : Int) : Bool := decide (i.natAbs.log2 + j.natAbs.log2 < 1000000)
theorem pd_mul (ha : PED X W a fa la) (hb : PED X W b fb lb) : PED X W (.BinOp a .Mult b pos) (e2 fa fb (gI mulB (· * ·))) [] := by
  obtain ⟨ta, pa, da⟩ := ha
  obtain ⟨tb, pb, db⟩ := hb
  exact ⟨_, pe_op op_mulW pa pb, ted_2s (opv_I fun i j h => (show i.natAbs.log2 + j.natAbs.log2 < 1000000 from of_decide_eq_true h)) gI_scal da db⟩
/-- // by any divisor that is not nought, below 2 ^ 9000 -/
def divB (_ j : Int) : Bool := decide (j ≠ 0 ∧ j.natAbs.log2 < 9000)
theorem op_fdivG : OpR X (binaryOp .FloorDiv) (rI (fun _ j => j ≠ 0 ∧ j.natAbs.log2 < 9000) fun i j => .int (i.fdiv j)) :=
  opI fun i j _ _ _ _ _ hc q => PyProof.Rows.floordiv_int hc.1 q (.inl (PyProof.noPylong_of_log2 hc.2))
theorem pd_fdiv (ha : PED X W a fa la) (hb : PED X W b fb lb) : PED X W (.BinOp a .FloorDiv b pos) (e2 fa fb (gI divB Int.fdiv)) [] := by
  obtain ⟨ta, pa, da⟩ := ha
  obtain ⟨tb, pb, db⟩ := hb
  exact ⟨_, pe_op op_fdivG pa pb, ted_2s (opv_I fun i j h => of_decide_eq_true h) gI_scal da db⟩
def nzB (_ j : Int) : Bool := decide (j ≠ 0)
theorem pd_mod (ha : PED X W a fa la) (hb : PED X W b fb lb) : PED X W (.BinOp a .Mod b pos) (e2 fa fb (gI nzB Int.fmod)) [] := by
  obtain ⟨ta, pa, da⟩ := ha
  obtain ⟨tb, pb, db⟩ := hb
  exact ⟨_, pe_op op_modN pa pb, ted_2s (opv_I fun i j h => of_decide_eq_true h) gI_scal da db⟩
def powB (i j : Int) : Bool := decide (0 ≤ j ∧ j ≤ 1000000 ∧ i.natAbs < 2 ^ 64)
theorem pd_pow (ha : PED X W a fa la) (hb : PED X W b fb lb) : PED X W (.BinOp a .Pow b pos) (e2 fa fb (gI powB fun i j => i ^ j.toNat)) [] := by
  obtain ⟨ta, pa, da⟩ := ha
  obtain ⟨tb, pb, db⟩ := hb
  exact ⟨_, pe_op op_pow pa pb, ted_2s (opv_I fun i j h => (show 0 ≤ j ∧ j ≤ 1000000 ∧ i.natAbs < 2 ^ 64 from of_decide_eq_true h)) gI_scal da db⟩
def gNeg : Dt → Option Dt
  | .int i => some (.int (-i))
  | _ => none
@[simp] theorem gNeg_int (i : Int) : gNeg (.int i) = some (.int (-i)) := rfl
theorem pd_neg (ha : PED X W a fa la) : PED X W (.UnaryOp .USub a pos) (e1 fa gNeg) la := by
  obtain ⟨ta, pa, da⟩ := ha
  refine ⟨_, pe_un un_neg pa, ted_1 ?_ da⟩
  intro H A d e x Q _ r h q
  cases d <;> try (cases h; done)
  cases h
  exact ⟨_, r, RE.now q rfl⟩
/-! names and constants -/
theorem pd_var (i : Nat) {x : Str} {p : Pos} (hN : X.N[i]? = some x := by rfl) (hv : Vis X.env.scope x := by first | exact Or.inl rfl | exact Or.inr (Or.inl rfl) | exact Or.inr (Or.inr rfl)) (hd : (x == ("__debug__" : Str)) = false := by decide)
    (hcd : (x == ("__classdict__" : Str)) = false := by decide) : PED X W (.Name x p) (eVar i) [i] := ⟨_, pe_var hN hv hd hcd, ted_var i⟩
theorem pd_int {i : Int} {j p} : PED X W (.Constant (.int i) j p) (eC (.int i)) [] := ⟨_, pe_int, ted_c fun _ _ => rfl⟩
theorem pd_bl {i : Bool} {j p} : PED X W (.Constant (.bool i) j p) (eC (.bl i)) [] := ⟨_, pe_bl, ted_c fun _ _ => rfl⟩
theorem pd_non {j p} : PED X W (.Constant .none j p) (eC .non) [] := ⟨_, pe_non, ted_c fun _ _ => rfl⟩
theorem pd_str {s : Str} {j p} : PED X W (.Constant (.str s) j p) (eC (.str s)) [] := ⟨_, pe_str, ted_c fun _ _ => rfl⟩
/-- a module's name: a number, a text, a class -/
theorem pd_glob {x : Str} {v : V} {d : Dt} {p : Pos} (hg : Gl X x) (hm : ∃ u, X.mg x = some u ∧ RelV v u) (hr : ∀ H A, Rep X.K H A d v) (hd : (x == ("__debug__" : Str)) = false := by decide) : PED X W (.Name x p) (eC d) [] := by
  obtain ⟨u, h1, h2⟩ := hm
  exact ⟨_, pe_glob hg h1 h2 hd, ted_c hr⟩
theorem pd_type {x : Str} {n : String} {p : Pos} (hg : Gl X x) (hm : X.mg x = none) (hv : bootBuiltins x = some (.type n)) (hn : x ≠ "__name__" := by decide) (hd : (x == ("__debug__" : Str)) = false := by decide) : PED X W (.Name x p) (eC (.ty n)) [] :=
  ⟨_, pe_bltn hg hm hv (show RelV (V.ty n) _ from rfl) hn hd, ted_c fun _ _ => rfl⟩
/-! comparisons -/
end
mutual
def Dt.py : Dt → Option PyData
  | .non => some .none
  | .bl b => some (.bool b)
  | .int i => some (.int i)
  | .str s => some (.str s)
  | .tup ds => (Dt.pys ds).map .tuple
  | .lst ds => (Dt.pys ds).map .list
  | _ => none
def Dt.pys : List Dt → Option (List PyData)
  | [] => some []
  | d :: ds => (Dt.py d).bind fun p => (Dt.pys ds).map fun q => p :: q
end
mutual
theorem Rep.dp {K : PySem.W.Frag} {H : Hp} {A : Ad} : ∀ (d : Dt) (v : V) (p : PyData), d.py = some p → Rep K H A d v → Dp K H v p
  | .non, v, p, e, r => by
    have e' : v = .non := r
    subst e'
    unfold Dt.py at e
    cases e
    exact .non
  | .bl b, v, p, e, r => by
    have e' : v = .bl b := r
    subst e'
    unfold Dt.py at e
    cases e
    exact .bl b
  | .int b, v, p, e, r => by
    have e' : v = .int b := r
    subst e'
    unfold Dt.py at e
    cases e
    exact .int b
  | .str b, v, p, e, r => by
    have e' : v = .str b := r
    subst e'
    unfold Dt.py at e
    cases e
    exact .str b
  | .ty _, _, _, e, _ => by simp [Dt.py] at e
  | .cls _, _, _, e, _ => by simp [Dt.py] at e
  | .fls _, _, _, e, _ => by simp [Dt.py] at e
  | .dic _ _, _, _, e, _ => by simp [Dt.py] at e
  | .obj _ _ _, _, _, e, _ => by simp [Dt.py] at e
  | .exn _ _ _ _ _, _, _, e, _ => by simp [Dt.py] at e
  | .tup ds, v, p, e, r => by
    unfold Dt.py at e
    cases ep : Dt.pys ds with
    | none => rw [ep] at e; cases e
    | some ps =>
      rw [ep] at e
      cases e
      unfold Rep at r
      obtain ⟨a, vs, rfl, h, hr⟩ := r
      exact .tup (SqT.of' h) (Reps.dps ds vs ps ep hr)
  | .lst ds, v, p, e, r => by
    unfold Dt.py at e
    cases ep : Dt.pys ds with
    | none => rw [ep] at e; cases e
    | some ps =>
      rw [ep] at e
      cases e
      unfold Rep at r
      obtain ⟨a, vs, rfl, _, h, hr⟩ := r
      exact .lst (SqL.of h) (Reps.dps ds vs ps ep hr)
theorem Reps.dps {K : PySem.W.Frag} {H : Hp} {A : Ad} : ∀ (ds : List Dt) (vs : List V) (ps : List PyData), Dt.pys ds = some ps → Reps K H A ds vs → DpAll K H vs ps
  | [], vs, ps, e, r => by
    unfold Dt.pys at e
    unfold Reps at r
    cases e
    subst r
    exact .nil
  | d :: ds, vs, ps, e, r => by
    unfold Dt.pys at e
    unfold Reps at r
    obtain ⟨v, t, rfl, h1, h2⟩ := r
    cases e1 : Dt.py d with
    | none => rw [e1] at e; cases e
    | some p =>
      cases e2 : Dt.pys ds with
      | none => rw [e1, e2] at e; cases e
      | some qs =>
        rw [e1, e2] at e
        cases e
        exact .cons (Rep.dp d v p e1 h1) (Reps.dps ds t qs e2 h2)
end
def eqS : Dt → Dt → Option Bool
  | .int i, .int j => some (i == j)
  | .str i, .str j => some (i == j)
  | .bl i, .bl j => some (i == j)
  | .non, .non => some true
  | _, _ => none
def eqP (a b : Dt) : Option Bool := a.py.bind fun p => b.py.bind fun q => if SeqAt.shaped p = true ∧ SeqAt.shaped q = true then some (PyData.eqv p q) else none
def eqD (a b : Dt) : Option Bool := (eqS a b).orElse fun _ => eqP a b
@[simp] theorem eqD_int (i j : Int) : eqD (.int i) (.int j) = some (i == j) := rfl
@[simp] theorem eqD_str (i j : Str) : eqD (.str i) (.str j) = some (i == j) := rfl
@[simp] theorem eqD_bl (i j : Bool) : eqD (.bl i) (.bl j) = some (i == j) := rfl
@[simp] theorem eqD_non : eqD .non .non = some true := rfl
section
variable {K : PySem.W.Frag}
theorem opt_eqS : OpT K rEq eqS := by
  intro H A a b d x y Q ra rb e q
  cases a <;> cases b <;> try (cases e; done)
  · have e1 : x = .non := ra
    have e2 : y = .non := rb
    subst e1 e2
    cases e
    exact ⟨rfl, q⟩
  · rename_i i j
    have e1 : x = .bl i := ra
    have e2 : y = .bl j := rb
    subst e1 e2
    cases e
    exact ⟨rfl, by rw [dec_bl]; exact q⟩
  · rename_i i j
    have e1 : x = .int i := ra
    have e2 : y = .int j := rb
    subst e1 e2
    cases e
    exact ⟨rfl, by rw [dec_int]; exact q⟩
  · rename_i i j
    have e1 : x = .str i := ra
    have e2 : y = .str j := rb
    subst e1 e2
    cases e
    exact ⟨rfl, by rw [dec_str]; exact q⟩
theorem eqP_inv {a b : Dt} {d : Bool} (h : eqP a b = some d) : ∃ p q, a.py = some p ∧ b.py = some q ∧ SeqAt.shaped p = true ∧ SeqAt.shaped q = true ∧ d = PyData.eqv p q := by
  unfold eqP at h
  cases e1 : a.py with
  | none => rw [e1] at h; cases h
  | some p =>
    cases e2 : b.py with
    | none => rw [e1, e2] at h; cases h
    | some q =>
      rw [e1, e2] at h
      obtain ⟨⟨h1, h2⟩, h3⟩ := some_ite h
      exact ⟨p, q, rfl, rfl, h1, h2, h3.symm⟩
theorem opt_eqP : OpT K (rEqD K) eqP := by
  intro H A a b d x y Q ra rb e q
  obtain ⟨p, p', h1, h2, h3, h4, rfl⟩ := eqP_inv e
  exact ⟨p, p', Rep.dp a x p h1 ra, Rep.dp b y p' h2 rb, h3, h4, q⟩
def neg2 (g : Dt → Dt → Option Bool) : Dt → Dt → Option Bool := fun a b => (g a b).map fun x => !x
@[simp] theorem neg2_eq (g : Dt → Dt → Option Bool) (a b : Dt) : neg2 g a b = (g a b).map fun x => !x := rfl
theorem opt_neS : OpT K rNe (neg2 eqS) := by
  intro H A a b d x y Q ra rb e q
  cases a <;> cases b <;> try (cases e; done)
  · have e1 : x = .non := ra
    have e2 : y = .non := rb
    subst e1 e2
    cases e
    exact ⟨rfl, q⟩
  · rename_i i j
    have e1 : x = .bl i := ra
    have e2 : y = .bl j := rb
    subst e1 e2
    cases e
    exact ⟨rfl, by rw [dec_bl]; exact q⟩
  · rename_i i j
    have e1 : x = .int i := ra
    have e2 : y = .int j := rb
    subst e1 e2
    cases e
    exact ⟨rfl, by rw [dec_int]; exact q⟩
  · rename_i i j
    have e1 : x = .str i := ra
    have e2 : y = .str j := rb
    subst e1 e2
    cases e
    exact ⟨rfl, by rw [dec_str]; exact q⟩
theorem opt_neP : OpT K (rNeD K) (neg2 eqP) := by
  intro H A a b d x y Q ra rb e q
  cases e1 : eqP a b with
  | none => simp [neg2, e1] at e
  | some d' =>
    simp only [neg2, e1, Option.map_some, Option.some.injEq] at e
    subst e
    obtain ⟨p, p', h1, h2, h3, h4, rfl⟩ := eqP_inv e1
    exact ⟨p, p', Rep.dp a x p h1 ra, Rep.dp b y p' h2 rb, h3, h4, q⟩
def isN : Dt → Dt → Option Bool
  | .non, .non => some true
  | _, .non => some false
  | _, _ => none
theorem opt_isN : OpT K (fun x y H Q => y = .non ∧ Q (.bl (decide (x = .non))) H) isN := by
  intro H A a b d x y Q ra rb e q
  cases b <;> try (cases a <;> cases e; done)
  have e2 : y = .non := rb
  refine ⟨e2, ?_⟩
  have hd : decide (x = V.non) = d := by
    cases a with
    | non => cases e; have e1 : x = .non := ra; subst e1; rfl
    | bl i => cases e; have e1 : x = .bl i := ra; subst e1; rfl
    | int i => cases e; have e1 : x = .int i := ra; subst e1; rfl
    | str i => cases e; have e1 : x = .str i := ra; subst e1; rfl
    | ty i => cases e; have e1 : x = .ty i := ra; subst e1; rfl
    | cls i => cases e; have e1 : x = .ref i := ra; subst e1; rfl
    | tup ds => cases e; unfold Rep at ra; obtain ⟨a, vs, rfl, _⟩ := ra; rfl
    | lst ds => cases e; unfold Rep at ra; obtain ⟨a, vs, rfl, _⟩ := ra; rfl
    | fls ds => cases e; unfold Rep at ra; obtain ⟨a, vs, rfl, _⟩ := ra; rfl
    | dic ks ds => cases e; unfold Rep at ra; obtain ⟨a, vs, rfl, _⟩ := ra; rfl
    | obj C ns ds => cases e; unfold Rep at ra; obtain ⟨a, dx, fs, rfl, _⟩ := ra; rfl
    | exn a od C ns ds => cases e; unfold Rep at ra; obtain ⟨fs, rfl, _⟩ := ra; rfl
  rw [hd]
  exact q
theorem opt_notN : OpT K (fun x y H Q => y = .non ∧ Q (.bl (!decide (x = .non))) H) (neg2 isN) := by
  intro H A a b d x y Q ra rb e q
  cases e1 : isN a b with
  | none => simp [neg2, e1] at e
  | some d' =>
    simp only [neg2, e1, Option.map_some, Option.some.injEq] at e
    subst e
    obtain ⟨h1, h2⟩ := opt_isN (K := K) (Q := fun v _ => v = .bl d') H A a b d' x y ra rb e1 rfl
    refine ⟨h1, ?_⟩
    have h3 : decide (x = V.non) = d' := by
      injection h2
    rw [h3]
    exact q
end
section
variable {X : Cx} {pos : Pos} {a b c e : Expr} {W : WX} {fa fb fc : Env → Out Dt} {la lb lc : List Nat} {rest : List Expr} {ft fu : Env → Out Bool}
/-- a comparison: as a test, as a value -/
theorem pt_of {op : CmpOp} {r : R2} {g : Dt → Dt → Option Bool} (ho : OpR X (compareOp op) r) (hg : OpT X.K r g) (ha : PED X W a fa la) (hb : PED X W b fb lb) (hm : behindInMarks op b = false) : PTD X W (.Compare a [op] [b] pos) (t2 fa fb g) [] := by
  obtain ⟨ta, pa, da⟩ := ha
  obtain ⟨tb, pb, db⟩ := hb
  exact ⟨_, pt_cmpR ho pa pb hm, ttd_2 hg da db⟩
theorem pd_of {op : CmpOp} {r : R2} {g : Dt → Dt → Option Bool} (ho : OpR X (compareOp op) r) (hg : OpT X.K r g) (ha : PED X W a fa la) (hb : PED X W b fb lb) (hm : behindInMarks op b = false) : PED X W (.Compare a [op] [b] pos) (eT (t2 fa fb g)) [] := by
  obtain ⟨ta, pa, da⟩ := ha
  obtain ⟨tb, pb, db⟩ := hb
  exact ⟨_, pe_cmpR ho pa pb hm, ted_cmp hg da db⟩
/-- a kind of comparison -/
structure Cmp (X : Cx) (op : CmpOp) (g : Dt → Dt → Option Bool) : Prop where
  ex : ∃ r, OpR X (compareOp op) r ∧ OpT X.K r g
theorem cm_lt : Cmp X .Lt (cI fun i j => decide (i < j)) := ⟨_, op_lt, opt_I0⟩
theorem cm_le : Cmp X .LtE (cI fun i j => decide (i ≤ j)) := ⟨_, op_le, opt_I0⟩
theorem cm_gt : Cmp X .Gt (cI fun i j => decide (j < i)) := ⟨_, op_gt, opt_I0⟩
theorem cm_ge : Cmp X .GtE (cI fun i j => decide (j ≤ i)) := ⟨_, op_ge, opt_I0⟩
theorem cm_eq (hu : X.A.units + 64 < cLine) : Cmp X .Eq eqD := ⟨_, op_eq.or (op_eqD hu), OpT.or opt_eqS opt_eqP⟩
def neD (a b : Dt) : Option Bool := (neg2 eqS a b).orElse fun _ => neg2 eqP a b
theorem neD_eq (a b : Dt) : neD a b = neg2 eqD a b := by
  show ((eqS a b).map (fun x => !x)).orElse (fun _ => (eqP a b).map fun x => !x) = ((eqS a b).orElse fun _ => eqP a b).map fun x => !x
  cases eqS a b <;> rfl
theorem cm_ne (hu : X.A.units + 64 < cLine) : Cmp X .NotEq neD := ⟨_, op_ne.or (op_neD hu), OpT.or opt_neS opt_neP⟩
theorem cm_isN : Cmp X .Is isN := ⟨_, op_isN, opt_isN⟩
theorem cm_notN : Cmp X .IsNot (neg2 isN) := ⟨_, op_notN, opt_notN⟩
theorem pt_c {op : CmpOp} {g : Dt → Dt → Option Bool} (h : Cmp X op g) (ha : PED X W a fa la) (hb : PED X W b fb lb) (hm : behindInMarks op b = false := by first | exact nomark _ | rfl) : PTD X W (.Compare a [op] [b] pos) (t2 fa fb g) [] := by
  obtain ⟨r, h1, h2⟩ := h.ex
  exact pt_of h1 h2 ha hb hm
theorem pd_c {op : CmpOp} {g : Dt → Dt → Option Bool} (h : Cmp X op g) (ha : PED X W a fa la) (hb : PED X W b fb lb) (hm : behindInMarks op b = false := by first | exact nomark _ | rfl) : PED X W (.Compare a [op] [b] pos) (eT (t2 fa fb g)) [] := by
  obtain ⟨r, h1, h2⟩ := h.ex
  exact pd_of h1 h2 ha hb hm
/-- a < b < c -/
def eChain (fa fb fc : Env → Out Dt) (g g' : Dt → Dt → Option Bool) : Env → Out Bool := fun ρ => (fa ρ).bind fun a => (fb ρ).bind fun b => (ofO (g a b)).bind fun k => if k = true then (fc ρ).bind fun c => ofO (g' b c) else .ok false
theorem pd_chain {op op' : CmpOp} {g g' : Dt → Dt → Option Bool} (h : Cmp X op g) (h' : Cmp X op' g') (ha : PED X W a fa la) (hb : PED X W b fb lb) (hc : PED X W c fc lc) (hm : lastMarks [op, op'] [b, c] = false := by with_unfolding_all rfl) : PED X W (.Compare a [op, op'] [b, c] pos) (eT (eChain fa fb fc g g')) [] := by
  obtain ⟨r, h1, h2⟩ := h.ex
  obtain ⟨r', h1', h2'⟩ := h'.ex
  obtain ⟨ta, pa, da⟩ := ha
  obtain ⟨tb, pb, db⟩ := hb
  obtain ⟨tc, pc, dc⟩ := hc
  refine ⟨_, pe_chain h1 h1' pa pb pc (hm := hm), ?_⟩
  intro H0 A0 ρ σ H Q s h
  unfold eT eChain at h
  rw [Out.bind_assoc] at h
  refine da _ _ _ _ _ _ s (h.seq fun a _ h1 v1 H1 s1 r1 => ?_)
  rw [Out.bind_assoc] at h1
  refine db _ _ _ _ _ _ (s.grow s1) ((h1.grow s1).seq fun b _ h3 v2 H2 s2 r2 => ?_)
  have sg := s.grow (s1.trans s2)
  rw [Out.bind_assoc] at h3
  cases e : g a b with
  | none =>
    rw [e] at h3
    exact False.elim h3
  | some k =>
    rw [e] at h3
    refine h2 H2 NoA a b k v1 v2 _ (r1.same s2).noA r2.noA e ⟨k, rfl, ?_⟩
    cases k with
    | false => exact h3 (.bl false) H2 (s1.trans s2) rfl
    | true =>
      simp only [ofO_some, Out.bind_ok, if_true] at h3
      rw [if_pos rfl]
      rw [Out.bind_assoc] at h3
      refine dc _ _ _ _ _ _ sg ((h3.grow s2).seq fun c _ h4 v3 H3 s3 r3 => ?_)
      cases e' : g' b c with
      | none =>
        rw [e'] at h4
        exact False.elim h4
      | some k' =>
        rw [e'] at h4
        exact h2' H3 NoA b c k' v2 v3 _ (r2.same s3).noA r3.noA e' (h4 (.bl k') H3 ((s1.trans s2).trans s3) rfl)
/-! and, or, not: tests -/
theorem pw_and1D (ha : PTD X W a ft la) : PWD X W (.BoolOp .And [a] pos) ft la := by
  obtain ⟨ta, pa, da⟩ := ha
  exact ⟨_, pw_and1 pa, da⟩
theorem pw_or1D (ha : PTD X W a ft la) : PWD X W (.BoolOp .Or [a] pos) ft la := by
  obtain ⟨ta, pa, da⟩ := ha
  exact ⟨_, pw_or1 pa, da⟩
theorem pw_andD (ha : PTD X W a ft la) (hb : PWD X W (.BoolOp .And (b :: rest) pos) fu lb) : PWD X W (.BoolOp .And (a :: b :: rest) pos) (tAndD ft fu) [] := by
  obtain ⟨ta, pa, da⟩ := ha
  obtain ⟨tb, pb, db⟩ := hb
  exact ⟨_, pw_and pa pb, ttd_and da db⟩
theorem pw_orD (ha : PTD X W a ft la) (hb : PWD X W (.BoolOp .Or (b :: rest) pos) fu lb) : PWD X W (.BoolOp .Or (a :: b :: rest) pos) (tOrD ft fu) [] := by
  obtain ⟨ta, pa, da⟩ := ha
  obtain ⟨tb, pb, db⟩ := hb
  exact ⟨_, pw_or pa pb, ttd_or da db⟩
theorem ptw (ha : PWD X W e ft la) : PTD X W e ft la := by
  obtain ⟨ta, pa, da⟩ := ha
  exact ⟨_, pa.pt, da⟩
theorem pt_notD (ha : PTD X W a ft la) : PTD X W (.UnaryOp .Not a pos) (tNotD ft) [] := by
  obtain ⟨ta, pa, da⟩ := ha
  exact ⟨_, pt_not pa, ttd_not da⟩
/-! .. as values, all of them True or False -/
def blD : Dt → Option Bool
  | .bl b => some b
  | _ => none
@[simp] theorem blD_bl (b : Bool) : blD (.bl b) = some b := rfl
def eAnd (f g : Env → Out Dt) : Env → Out Dt := fun ρ => (f ρ).bind fun a => (ofO (blD a)).bind fun b => if b = true then g ρ else .ok (.bl false)
def eOr (f g : Env → Out Dt) : Env → Out Dt := fun ρ => (f ρ).bind fun a => (ofO (blD a)).bind fun b => if b = true then .ok (.bl true) else g ρ
def eNot (f : Env → Out Dt) : Env → Out Dt := fun ρ => (f ρ).bind fun a => (ofO (blD a)).bind fun b => .ok (.bl (!b))
theorem blD_inv {a : Dt} {b : Bool} (h : blD a = some b) : a = .bl b := by
  cases a <;> try (cases h; done)
  cases h
  rfl
theorem pd_one {op : BoolOp} (ha : PED X W a fa la) : PED X W (.BoolOp op [a] pos) fa la := by
  obtain ⟨ta, pa, da⟩ := ha
  exact ⟨_, pe_one pa, da⟩
theorem bl_seq {K : PySem.W.Frag} {H : Hp} {σ : L2.St} {a : Dt} {k : Bool → Out Dt} {R : Dt → Prop} (h : PostX K W H σ ((ofO (blD a)).bind k) R) : ∃ b, a = .bl b ∧ PostX K W H σ (k b) R := by
  cases e : blD a with
  | none => rw [e] at h; exact False.elim h
  | some b => rw [e] at h; exact ⟨b, blD_inv e, h⟩
theorem pd_and (ha : PED X W a fa la) (hb : PED X W (.BoolOp .And (b :: rest) pos) fb lb) : PED X W (.BoolOp .And (a :: b :: rest) pos) (eAnd fa fb) lb := by
  obtain ⟨ta, pa, da⟩ := ha
  obtain ⟨tb, pb, db⟩ := hb
  refine ⟨_, pe_and pa pb, ?_⟩
  intro H0 A0 ρ σ H Q s h
  refine da _ _ _ _ _ _ s (h.seq fun a _ h1 v1 H1 s1 r1 => ?_)
  obtain ⟨b, rfl, h2⟩ := bl_seq h1
  refine ⟨b, r1, ?_⟩
  cases b with
  | true => exact db _ _ _ _ _ _ (s.grow s1) ((h2.grow s1).imp fun d _ q => RE.grow s1 q)
  | false => exact h2 _ H1 s1 rfl
theorem pd_or (ha : PED X W a fa la) (hb : PED X W (.BoolOp .Or (b :: rest) pos) fb lb) : PED X W (.BoolOp .Or (a :: b :: rest) pos) (eOr fa fb) lb := by
  obtain ⟨ta, pa, da⟩ := ha
  obtain ⟨tb, pb, db⟩ := hb
  refine ⟨_, pe_or pa pb, ?_⟩
  intro H0 A0 ρ σ H Q s h
  refine da _ _ _ _ _ _ s (h.seq fun a _ h1 v1 H1 s1 r1 => ?_)
  obtain ⟨b, rfl, h2⟩ := bl_seq h1
  refine ⟨b, r1, ?_⟩
  cases b with
  | false => exact db _ _ _ _ _ _ (s.grow s1) ((h2.grow s1).imp fun d _ q => RE.grow s1 q)
  | true => exact h2 _ H1 s1 rfl
theorem pd_not (ha : PED X W a fa la) : PED X W (.UnaryOp .Not a pos) (eNot fa) [] := by
  obtain ⟨ta, pa, da⟩ := ha
  refine ⟨_, pe_not pa, ?_⟩
  intro H0 A0 ρ σ H Q s h
  refine da _ _ _ _ _ _ s (h.seq fun a _ h1 v1 H1 s1 r1 => ?_)
  obtain ⟨b, rfl, h2⟩ := bl_seq h1
  exact ⟨b, r1, h2 _ H1 s1 rfl⟩
/-! a value as a test -/
def truD : Dt → Option Bool
  | .non => some false
  | .bl b => some b
  | .int i => some (i != 0)
  | .str s => if s.length ≤ 16777216 then some ((s.length : Int) != 0) else none
  | .tup ds => some (!ds.isEmpty)
  | .lst ds => some (!ds.isEmpty)
  | .fls ds => some (!ds.isEmpty)
  | .dic ks _ => some (!ks.isEmpty)
  | _ => none
@[simp] theorem truD_non : truD .non = some false := rfl
@[simp] theorem truD_bl (b : Bool) : truD (.bl b) = some b := rfl
@[simp] theorem truD_int (b : Int) : truD (.int b) = some (b != 0) := rfl
@[simp] theorem truD_tup (b : List Dt) : truD (.tup b) = some (!b.isEmpty) := rfl
@[simp] theorem truD_lst (b : List Dt) : truD (.lst b) = some (!b.isEmpty) := rfl
@[simp] theorem truD_fls (b : List Dt) : truD (.fls b) = some (!b.isEmpty) := rfl
@[simp] theorem truD_dic (b : List Key) (c : List Dt) : truD (.dic b c) = some (!b.isEmpty) := rfl
theorem isEmpty_len {α β : Type} {xs : List α} {ys : List β} (h : xs.length = ys.length) : xs.isEmpty = ys.isEmpty := by
  cases xs <;> cases ys <;> first | rfl | (simp at h)
theorem truV_of {K : PySem.W.Frag} {H : Hp} {A : Ad} {d : Dt} {v : V} {k : Bool} (r : Rep K H A d v) (h : truD d = some k) : TruV K v H k := by
  cases d with
  | non => have e : v = .non := r; subst e; cases h; rfl
  | bl b => have e : v = .bl b := r; subst e; cases h; rfl
  | int i => have e : v = .int i := r; subst e; cases h; rfl
  | str s =>
    have e : v = .str s := r
    subst e
    obtain ⟨h1, rfl⟩ := some_ite h
    exact ⟨by rw [sizeLine_eq]; exact h1, rfl⟩
  | ty _ => cases h
  | cls _ => cases h
  | obj _ _ _ => cases h
  | exn _ _ _ _ _ => cases h
  | tup ds =>
    unfold Rep at r
    obtain ⟨a, vs, rfl, h1, h2⟩ := r
    cases h
    exact .inr (.inl ⟨vs, SqT.of' h1, by rw [isEmpty_len h2.length]⟩)
  | lst ds =>
    unfold Rep at r
    obtain ⟨a, vs, rfl, _, h1, h2⟩ := r
    cases h
    exact .inl ⟨vs, SqL.of h1, by rw [isEmpty_len h2.length]⟩
  | fls ds =>
    unfold Rep at r
    obtain ⟨a, vs, rfl, h1, h2⟩ := r
    cases h
    refine .inl ⟨vs, ?_, by rw [isEmpty_len h2.length]⟩
    rcases h1 with ⟨_, o, h1⟩ | h1
    · exact .inl (.inr ⟨o, h1⟩)
    · exact .inr h1
  | dic ks ds =>
    unfold Rep at r
    obtain ⟨a, kvs, rfl, _, h1, h2, h3⟩ := r
    cases h
    refine .inr (.inr ⟨kvs, h1, ?_⟩)
    rw [← h2]
    cases kvs <;> rfl
theorem pt_v (ha : PED X W a fa la) (he : ∀ whole, isTrue a X.env whole = (do let v ← whole; standAt a.pos; holding [v] (truthy v)) := by intro _; rfl) : PTD X W a (t1 fa truD) [] := by
  obtain ⟨ta, pa, da⟩ := ha
  refine ⟨_, pt_truth pa he, ?_⟩
  intro H0 A0 ρ σ H Q s h
  refine da _ _ _ _ _ _ s (h.seq fun a _ h1 v1 H1 s1 r1 => ?_)
  obtain ⟨k, e, q⟩ := ofO_seq h1
  exact ⟨k, truV_of r1 e, q H1 s1⟩
theorem pd_ifD (hc : PTD X W c ft lc) (ha : PED X W a fa la) (hb : PED X W b fb lb) : PED X W (.IfExp c a b pos) (eIfD ft fa fb) (la ++ lb) := by
  obtain ⟨tc, pc, dc⟩ := hc
  obtain ⟨ta, pa, da⟩ := ha
  obtain ⟨tb, pb, db⟩ := hb
  exact ⟨_, pe_ifExp pc pa pb, ted_if dc da db⟩
/-! displays -/
variable {es : List Expr} {fs : Env → Out (List Dt)} {ls : List Nat}
theorem pa_nilD : PAD X W [] aNil [] := ⟨_, pa_nil, tad_nil⟩
theorem pa_consD (ha : PED X W e fa la) (hr : PAD X W es fs lb) (hs : starEach (e :: es) X.env = (false, eval e X.env) :: starEach es X.env := by rfl) : PAD X W (e :: es) (aCons fa fs) (la ++ lb) := by
  obtain ⟨ta, pa, da⟩ := ha
  obtain ⟨tr, pr, dr⟩ := hr
  exact ⟨_, pa_cons pa pr hs, tad_cons da dr⟩
theorem pd_tup {k} (h : PAD X W es fs ls) : PED X W (.Tuple es k pos) (eTup fs) ls := by
  obtain ⟨ta, pa, da⟩ := h
  exact ⟨_, pe_tup pa, ted_tup da⟩
theorem pl_lst (h : PAD X W es fs ls) : PLD X W (.List es pos) (lLst fs) ls := by
  obtain ⟨ta, pa, da⟩ := h
  exact ⟨_, pe_lst pa, tld_lst da⟩
theorem pd_l (h : PLD X W e fs ls) : PED X W e (eL fs) ls := by
  obtain ⟨ta, pa, da⟩ := h
  exact ⟨_, pa, ted_l da⟩
end
end FD

namespace FD
open PySem L2
/-! ### statements -/
inductive Fl where
  | nx | bk | ct | rt (d : Dt)
inductive SOut where
  | ok (f : Fl) (ρ : Env) | exc (x : Exn) (ρ : Env) | bad
def stE {α : Type} (o : Out α) (ρ : Env) (k : α → SOut) : SOut := match o with
  | .ok a => k a
  | .exc x => .exc x ρ
  | .bad => .bad
@[simp] theorem stE_ok {α : Type} (a : α) (ρ : Env) (k : α → SOut) : stE (.ok a) ρ k = k a := rfl
@[simp] theorem stE_exc {α : Type} (x : Exn) (ρ : Env) (k : α → SOut) : stE (.exc x) ρ k = .exc x ρ := rfl
@[simp] theorem stE_bad {α : Type} (ρ : Env) (k : α → SOut) : stE .bad ρ k = .bad := rfl
def PostS (K : PySem.W.Frag) (W : WX) (H0 : Hp) (A0 : Ad) (o : SOut) (D : Ends) : Prop := match o with
  | .ok .nx ρ => ∀ σ H, StOk K H0 A0 H ρ σ → D.nx σ H
  | .ok .bk ρ => ∀ σ H, StOk K H0 A0 H ρ σ → D.bk σ H
  | .ok .ct ρ => ∀ σ H, StOk K H0 A0 H ρ σ → D.ct σ H
  | .ok (.rt d) _ => ∀ v H, Same H0 H → Rep K H A0 d v → D.rt v H
  | .exc x ρ => ∀ σ H c od, StOk K H0 A0 H ρ σ → ExOk K H x c od → W c od σ H
  | .bad => False
def TSD (K : PySem.W.Frag) (W : WX) (ts : TS) (g : Env → SOut) : Prop :=
  ∀ (H0 : Hp) (A0 : Ad) (ρ : Env) (σ : L2.St) (H : Hp) (D : Ends), StOk K H0 A0 H ρ σ → PostS K W H0 A0 (g ρ) D → ts D σ H
def PSD (X : Cx) (W : WX) (st : Stmt) (g : Env → SOut) : Prop := ∃ ts, PS X st ts ∧ TSD X.K W ts g
def PSsD (X : Cx) (W : WX) (st : List Stmt) (g : Env → SOut) : Prop := ∃ ts, PSs X st ts ∧ TSD X.K W ts g

/-! meanings -/
def sNext : Env → SOut := fun ρ => .ok .nx ρ
def sBrk : Env → SOut := fun ρ => .ok .bk ρ
def sCont : Env → SOut := fun ρ => .ok .ct ρ
def SOut.andThen (o : SOut) (g : Env → SOut) : SOut := match o with
  | .ok .nx ρ => g ρ
  | o => o
@[simp] theorem andThen_nx (ρ : Env) (g : Env → SOut) : (SOut.ok .nx ρ).andThen g = g ρ := rfl
@[simp] theorem andThen_bk (ρ : Env) (g : Env → SOut) : (SOut.ok .bk ρ).andThen g = .ok .bk ρ := rfl
@[simp] theorem andThen_ct (ρ : Env) (g : Env → SOut) : (SOut.ok .ct ρ).andThen g = .ok .ct ρ := rfl
@[simp] theorem andThen_rt (d : Dt) (ρ : Env) (g : Env → SOut) : (SOut.ok (.rt d) ρ).andThen g = .ok (.rt d) ρ := rfl
@[simp] theorem andThen_exc (x : Exn) (ρ : Env) (g : Env → SOut) : (SOut.exc x ρ).andThen g = .exc x ρ := rfl
@[simp] theorem andThen_bad (g : Env → SOut) : SOut.bad.andThen g = .bad := rfl
def sSeq (f g : Env → SOut) : Env → SOut := fun ρ => (f ρ).andThen g
def sSet (i : Nat) (f : Env → Out Dt) (lk : List Nat) : Env → SOut := fun ρ => stE (f ρ) ρ fun d => .ok .nx ((frzD d lk ρ).set i (some (.sh d)))
def sSetL (i : Nat) (f : Env → Out (List Dt)) (lk : List Nat) : Env → SOut := fun ρ => stE (f ρ) ρ fun ds => .ok .nx ((frz lk ρ).set i (some (.ol ds)))
def sDrop (f : Env → Out Dt) : Env → SOut := fun ρ => stE (f ρ) ρ fun _ => .ok .nx ρ
def sRet (f : Env → Out Dt) : Env → SOut := fun ρ => stE (f ρ) ρ fun d => .ok (.rt d) ρ
def sRetN : Env → SOut := fun ρ => .ok (.rt .non) ρ
def sIf (c : Env → Out Bool) (f g : Env → SOut) : Env → SOut := fun ρ => stE (c ρ) ρ fun b => if b = true then f ρ else g ρ
def sAppend (i : Nat) (f : Env → Out Dt) (lk : List Nat) : Env → SOut := fun ρ => match ρ[i]? with
  | some (some (.ol _)) => stE (f ρ) ρ fun d => (match (frzD d lk ρ)[i]? with
    | some (some (.ol ds)) => if ds.length < 16777216 then .ok .nx ((frzD d lk ρ).set i (some (.ol (ds ++ [d])))) else .bad
    | _ => .bad)
  | _ => .bad
def sSetIx (i : Nat) (fi f : Env → Out Dt) (lk : List Nat) : Env → SOut := fun ρ => stE (f ρ) ρ fun d => match (frzD d lk ρ)[i]? with
  | some (some (.ol ds)) => stE (fi (frzD d lk ρ)) (frzD d lk ρ) fun k => (match k with
    | .int k => (match ixN ds.length k with
      | some j => .ok .nx ((frzD d lk ρ).set i (some (.ol (ds.set j d))))
      | none => .bad)
    | _ => .bad)
  | _ => .bad

section
variable {K : PySem.W.Frag} {W : WX} {H0 H H1 : Hp} {A0 : Ad} {ρ : Env} {σ : L2.St} {lk la lb : List Nat} {α : Type}
theorem PostS.st {o : Out α} {k : α → SOut} {D : Ends} {R : α → Prop} (s : StOk K H0 A0 H ρ σ) (h : PostS K W H0 A0 (stE o ρ k) D) (hk : ∀ a, o = .ok a → PostS K W H0 A0 (k a) D → R a) : PostX K W H σ o R := by
  cases o with
  | ok a => exact hk a rfl h
  | exc x => exact fun c od H' s' r => h σ H' c od (s.grow s') r
  | bad => exact h
theorem tsd_seq {t u : TS} {f g : Env → SOut} (ht : TSD K W t f) (hu : TSD K W u g) : TSD K W (tSeq t u) (sSeq f g) := by
  intro H0 A0 ρ σ H D s h
  refine ht _ _ _ _ _ { D with nx := u D } s ?_
  unfold sSeq at h
  cases e : f ρ with
  | ok fl ρ' =>
    rw [e] at h
    cases fl with
    | nx => exact fun σ' H' s' => hu _ _ _ _ _ _ s' h
    | bk => exact h
    | ct => exact h
    | rt d => exact h
  | exc x ρ' => rw [e] at h; exact h
  | bad => rw [e] at h; exact h
theorem tsd_next : TSD K W tNext sNext := fun H0 A0 ρ σ H D s h => h σ H s
theorem tsd_brk : TSD K W tBreak sBrk := fun H0 A0 ρ σ H D s h => h σ H s
theorem tsd_cont : TSD K W tCont sCont := fun H0 A0 ρ σ H D s h => h σ H s
theorem tsd_set {te : TE} {f : Env → Out Dt} {i : Nat} (ha : TED K W te f la) : TSD K W (tAsg te (gName i)) (sSet i f la) := by
  intro H0 A0 ρ σ H D s h
  exact ha _ _ _ _ _ _ s (PostS.st s h fun d _ h1 v H1 s1 r1 => h1 _ _ (s.give s1 r1))
theorem tsd_setL {te : TE} {f : Env → Out (List Dt)} {i : Nat} (ha : TLD K W te f la) : TSD K W (tAsg te (gName i)) (sSetL i f la) := by
  intro H0 A0 ρ σ H D s h
  exact ha _ _ _ _ _ _ s (PostS.st s h fun d _ h1 p vs H1 s1 hp hp' r1 => h1 _ _ (s.giveL s1 hp hp' r1))
theorem tsd_drop {te : TE} {f : Env → Out Dt} (ha : TED K W te f la) : TSD K W (tDrop te) (sDrop f) := by
  intro H0 A0 ρ σ H D s h
  exact ha _ _ _ _ _ _ s (PostS.st s h fun d _ h1 v H1 s1 r1 => h1 _ _ (s.grow s1))
theorem tsd_ret {te : TE} {f : Env → Out Dt} (ha : TED K W te f la) : TSD K W (tRet te) (sRet f) := by
  intro H0 A0 ρ σ H D s h
  exact ha _ _ _ _ _ _ s (PostS.st s h fun d _ h1 v H1 s1 r1 => h1 _ _ (s.same.trans s1) (r1.anti fun _ z => .inl z))
theorem tsd_retN : TSD K W tRetN sRetN := fun H0 A0 ρ σ H D s h => h .non H s.same rfl
theorem tsd_if {tc : TT} {t u : TS} {c : Env → Out Bool} {f g : Env → SOut} (hc : TTD K W tc c la) (ht : TSD K W t f) (hu : TSD K W u g) : TSD K W (tIfS tc t u) (sIf c f g) := by
  intro H0 A0 ρ σ H D s h
  refine hc _ _ _ _ _ _ s (PostS.st s h fun b _ h1 H1 s1 => ?_)
  cases b with
  | true => exact ht _ _ _ _ _ _ (s.grow s1) h1
  | false => exact hu _ _ _ _ _ _ (s.grow s1) h1
/-- the wish's avoided set behind a freeze -/
theorem fzD (s : StOk K H0 A0 H ρ σ) {d : Dt} {v : V} (hs : Same H H1) (r : Rep K H1 (Av A0 ρ σ lk) d v) : StOk K H0 A0 H1 (frzD d lk ρ) σ ∧ Rep K H1 (Av A0 (frzD d lk ρ) σ []) d v := by
  unfold frzD
  split
  · rename_i hd
    exact ⟨s.grow hs, Rep.pure (fun a z => (s.grow hs).avMut z) d v hd r⟩
  · obtain ⟨s1, h1⟩ := (s.grow hs).fz lk
    exact ⟨s1, r.anti fun a z => by have q := h1 [] a z; rwa [List.append_nil] at q⟩
theorem tsd_append {te : TE} {f : Env → Out Dt} {i : Nat} (ha : TED K W te f la) : TSD K W (tDrop (tBM K "list" rAppend (tVar i) (tCons te tNil))) (sAppend i f la) := by
  intro H0 A0 ρ σ H D s h
  unfold sAppend at h
  split at h
  · rename_i ds0 e0
    obtain ⟨a, vs, e1, h0, h1, r0⟩ := s.ol i ds0 e0
    refine ⟨_, e1, .inl ⟨rfl, vs, SqL.of h1⟩, ?_⟩
    refine ha _ _ _ _ _ _ s (PostS.st s h fun d _ h2 v H1 s1 r1 => ?_)
    obtain ⟨s2, r2⟩ := fzD s s1 r1
    split at h2
    · rename_i ds e2
      split at h2
      · rename_i hl
        obtain ⟨a', vs', e3, h0', h1', r3⟩ := s2.ol i ds e2
        rw [e1] at e3
        cases e3
        refine ⟨a, vs', v, rfl, rfl, h1', by rw [r3.length, sizeLine_eq]; exact hl, ?_⟩
        exact h2 _ _ (s2.mutL e2 e1 (Reps.append r3 (Reps.cons r2 Reps.nil)))
      · exact False.elim h2
    · exact False.elim h2
  · exact False.elim h
/-- x[i] = e, x an own list -/
theorem tsd_setIx {te ti : TE} {f fi : Env → Out Dt} {i : Nat} (ha : TED K W te f la) (hi : TED K W ti fi lb) : TSD K W (tAsg te (gSub (tVar i) ti rSetL)) (sSetIx i fi f la) := by
  intro H0 A0 ρ σ H D s h
  unfold sSetIx at h
  refine ha _ _ _ _ _ _ s (PostS.st s h fun d _ h2 v H1 s1 r1 => ?_)
  obtain ⟨s2, r2⟩ := fzD s s1 r1
  split at h2
  · rename_i ds e2
    obtain ⟨a, vs, e1, h0, h1, r3⟩ := s2.ol i ds e2
    refine ⟨_, e1, ?_⟩
    refine hi _ _ _ _ _ _ s2 (PostS.st s2 h2 fun k _ h3 w H2 s3 r4 => ?_)
    have sg := s2.grow s3
    split at h3
    · rename_i kk _
      split at h3
      · rename_i j ej
        refine ⟨a, vs, kk, j, rfl, r4, s3 _ _ h1, by rw [r3.length]; exact ej, ?_⟩
        exact h3 _ _ (sg.mutL e2 e1 (Reps.set j (r3.same s3) (r2.same s3)))
      · exact False.elim h3
    · exact False.elim h3
  · exact False.elim h2
/-! targets: what they do with data; S the slots that they store in -/
def Out1 (S : List Nat) (ρ ρ' : Env) (σ σ' : L2.St) : Prop := σ'.length = σ.length ∧ ∀ j, j ∉ S → σ'[j]? = σ[j]? ∧ ρ'[j]? = ρ[j]?
def TGD (K : PySem.W.Frag) (g : TG) (u : Dt → Env → Option Env) (S : List Nat) : Prop :=
  ∀ (H0 : Hp) (A0 : Ad) (ρ ρ' : Env) (σ : L2.St) (H : Hp) (d : Dt) (v : V) (Q : L2.St → Hp → Prop), StOk K H0 A0 H ρ σ → Rep K H (Av A0 ρ σ []) d v → u d ρ = some ρ' →
    (∀ σ', StOk K H0 A0 H ρ' σ' → (∀ a, Av A0 ρ' σ' [] a → Av A0 ρ σ [] a) → Out1 S ρ ρ' σ σ' → Q σ' H) → g v σ H Q
def PGD (X : Cx) (tg : Expr) (u : Dt → Env → Option Env) (S : List Nat) : Prop := ∃ g, PG X tg g ∧ TGD X.K g u S
def uName (i : Nat) : Dt → Env → Option Env := fun d ρ => some (ρ.set i (some (.sh d)))
theorem tgd_name {i : Nat} : TGD K (gName i) (uName i) [i] := by
  intro H0 A0 ρ ρ' σ H d v Q s r e q
  cases e
  refine q _ (s.put r) (fun a z => StOk.putAv z) ⟨by rw [List.length_set], fun j hj => ?_⟩
  have ne : i ≠ j := fun z => hj (by rw [z]; exact List.mem_singleton.mpr rfl)
  exact ⟨List.getElem?_set_ne ne, List.getElem?_set_ne ne⟩
def uNil : List Dt → Env → Option Env := fun ds ρ => match ds with
  | [] => some ρ
  | _ => none
def uCons (u : Dt → Env → Option Env) (us : List Dt → Env → Option Env) : List Dt → Env → Option Env := fun ds ρ => match ds with
  | d :: ds => (u d ρ).bind fun ρ' => us ds ρ'
  | _ => none
def TGsD (K : PySem.W.Frag) (g : TGs) (us : List Dt → Env → Option Env) (S : List Nat) : Prop :=
  ∀ (H0 : Hp) (A0 A : Ad) (ρ ρ' : Env) (σ : L2.St) (H : Hp) (ds : List Dt) (vs : List V) (Q : L2.St → Hp → Prop), StOk K H0 A0 H ρ σ → (∀ a, Av A0 ρ σ [] a → A a) → Reps K H A ds vs → us ds ρ = some ρ' →
    (∀ σ', StOk K H0 A0 H ρ' σ' → (∀ a, Av A0 ρ' σ' [] a → Av A0 ρ σ [] a) → Out1 S ρ ρ' σ σ' → Q σ' H) → g vs σ H Q
def PGsD (X : Cx) (ts : List Expr) (us : List Dt → Env → Option Env) (S : List Nat) : Prop := ∃ g, PGs X ts g ∧ TGsD X.K g us S
theorem tgsd_nil : TGsD K gNil uNil [] := by
  intro H0 A0 A ρ ρ' σ H ds vs Q s ha r e q
  cases ds with
  | nil =>
    cases e
    unfold Reps at r
    exact ⟨r, q σ s (fun a z => z) ⟨rfl, fun j _ => ⟨rfl, rfl⟩⟩⟩
  | cons d ds => cases e
theorem tgsd_cons {g : TG} {gs : TGs} {u : Dt → Env → Option Env} {us : List Dt → Env → Option Env} {S T : List Nat} (h1 : TGD K g u S) (h2 : TGsD K gs us T) : TGsD K (gCons g gs) (uCons u us) (S ++ T) := by
  intro H0 A0 A ρ ρ' σ H ds vs Q s ha r e q
  cases ds with
  | nil => cases e
  | cons d ds =>
    unfold Reps at r
    obtain ⟨v, t, rfl, r1, r2⟩ := r
    refine ⟨v, t, rfl, ?_⟩
    have e' : (u d ρ).bind (fun ρ' => us ds ρ') = some ρ' := e
    cases e1 : u d ρ with
    | none => rw [e1] at e'; cases e'
    | some ρ1 =>
      rw [e1] at e'
      refine h1 _ _ _ _ _ _ _ _ _ s (r1.anti ha) e1 fun σ1 s1 m1 o1 => ?_
      refine h2 _ _ A _ _ _ _ _ _ _ s1 (fun a z => ha a (m1 a z)) r2 e' fun σ2 s2 m2 o2 => q σ2 s2 (fun a z => m1 a (m2 a z)) ⟨o2.1.trans o1.1, fun j hj => ?_⟩
      obtain ⟨x1, y1⟩ := o1.2 j fun z => hj (List.mem_append_left _ z)
      obtain ⟨x2, y2⟩ := o2.2 j fun z => hj (List.mem_append_right _ z)
      exact ⟨x2.trans x1, y2.trans y1⟩
def uTup (us : List Dt → Env → Option Env) : Dt → Env → Option Env := fun d ρ => match d with
  | .tup ds => us ds ρ
  | _ => none
theorem tgd_tup {gs : TGs} {us : List Dt → Env → Option Env} {n : Nat} {S : List Nat} (h : TGsD K gs us S) (hn : ∀ ds ρ ρ', us ds ρ = some ρ' → ds.length = n) : TGD K (gTup K n gs) (uTup us) S := by
  intro H0 A0 ρ ρ' σ H d v Q s r e q
  cases d <;> try (cases e; done)
  rename_i ds
  unfold Rep at r
  obtain ⟨a, vs, rfl, h1, r⟩ := r
  exact ⟨a, vs, rfl, SqT.of' h1, by rw [r.length]; exact hn _ _ _ e, h _ _ _ _ _ _ _ _ _ _ s (fun a z => z) r e q⟩
def sAsg (u : Dt → Env → Option Env) (f : Env → Out Dt) (lk : List Nat) : Env → SOut := fun ρ => stE (f ρ) ρ fun d => match u d (frzD d lk ρ) with
  | some ρ' => .ok .nx ρ'
  | none => .bad
theorem tsd_asg {te : TE} {f : Env → Out Dt} {g : TG} {u : Dt → Env → Option Env} {S : List Nat} (ha : TED K W te f la) (hg : TGD K g u S) : TSD K W (tAsg te g) (sAsg u f la) := by
  intro H0 A0 ρ σ H D s h
  unfold sAsg at h
  refine ha _ _ _ _ _ _ s (PostS.st s h fun d _ h2 v H1 s1 r1 => ?_)
  obtain ⟨s2, r2⟩ := fzD s s1 r1
  split at h2
  · rename_i ρ' e
    exact hg _ _ _ _ _ _ _ _ _ s2 r2 e fun σ' s' _ _ => h2 σ' H1 s'
  · exact False.elim h2
/-! while -/
def whileN : Nat → (Env → Out Bool) → (Env → SOut) → Env → SOut
  | 0, _, _, _ => .bad
  | n + 1, c, b, ρ => stE (c ρ) ρ fun k => if k = true then (match b ρ with
      | .ok .nx ρ' => whileN n c b ρ'
      | .ok .ct ρ' => whileN n c b ρ'
      | .ok .bk ρ' => .ok .nx ρ'
      | o => o) else .ok .nx ρ
theorem whileN_mono {c : Env → Out Bool} {b : Env → SOut} : ∀ (n m : Nat) (ρ : Env), n ≤ m → whileN n c b ρ ≠ .bad → whileN m c b ρ = whileN n c b ρ
  | 0, m, ρ, _, h => absurd rfl h
  | n + 1, 0, ρ, h, _ => absurd h (by omega)
  | n + 1, m + 1, ρ, h, hb => by
    unfold whileN at hb ⊢
    cases e : c ρ with
    | ok k =>
      rw [e] at hb
      simp only [stE_ok] at hb ⊢
      cases k with
      | true =>
        simp only [if_true] at hb ⊢
        cases e2 : b ρ with
        | ok f ρ' =>
          rw [e2] at hb
          cases f with
          | nx => exact whileN_mono n m ρ' (by omega) hb
          | ct => exact whileN_mono n m ρ' (by omega) hb
          | bk => rfl
          | rt d => rfl
        | exc x ρ' => rfl
        | bad => rfl
      | false => rfl
    | exc x => rfl
    | bad => rfl
open Classical in
noncomputable def sWhile (c : Env → Out Bool) (b : Env → SOut) : Env → SOut := fun ρ => if h : ∃ n, whileN n c b ρ ≠ .bad then whileN (choose h) c b ρ else .bad
theorem sWhile_of {c : Env → Out Bool} {b : Env → SOut} {ρ : Env} (n : Nat) (h : whileN n c b ρ ≠ .bad) : sWhile c b ρ = whileN n c b ρ := by
  unfold sWhile
  have hx : ∃ n, whileN n c b ρ ≠ .bad := ⟨n, h⟩
  rw [dif_pos hx]
  have h2 := Classical.choose_spec hx
  by_cases q : n ≤ Classical.choose hx
  · exact whileN_mono _ _ _ q h
  · exact (whileN_mono _ _ _ (by omega) h2).symm
theorem sWhile_some {c : Env → Out Bool} {b : Env → SOut} {ρ : Env} (h : sWhile c b ρ ≠ .bad) : ∃ n, whileN n c b ρ = sWhile c b ρ := by
  unfold sWhile at h ⊢
  split at h
  · rename_i hx
    exact ⟨_, by rw [dif_pos hx]⟩
  · exact absurd rfl h
/-- one turn -/
theorem sWhile_eq (c : Env → Out Bool) (b : Env → SOut) (ρ : Env) : sWhile c b ρ = stE (c ρ) ρ fun k => if k = true then (match b ρ with
      | .ok .nx ρ' => sWhile c b ρ'
      | .ok .ct ρ' => sWhile c b ρ'
      | .ok .bk ρ' => .ok .nx ρ'
      | o => o) else .ok .nx ρ := by
  by_cases hb : sWhile c b ρ = .bad
  · -- then the right side is bad too
    have all : ∀ n, whileN n c b ρ = .bad := fun n => by
      by_cases q : whileN n c b ρ = .bad
      · exact q
      · rw [sWhile_of n q] at hb
        exact absurd hb q
    rw [hb]
    have a1 := all 1
    unfold whileN at a1
    cases e : c ρ with
    | ok k =>
      rw [e] at a1
      cases k with
      | true =>
        simp only [stE_ok, if_true] at a1 ⊢
        have step : ∀ ρ', (b ρ = .ok .nx ρ' ∨ b ρ = .ok .ct ρ') → sWhile c b ρ' = .bad := fun ρ' hq => by
          by_cases q : sWhile c b ρ' = .bad
          · exact q
          · obtain ⟨n, hn⟩ := sWhile_some q
            have z := all (n + 1)
            unfold whileN at z
            rw [e] at z
            simp only [stE_ok, if_true] at z
            rcases hq with hq | hq <;> (rw [hq] at z; exact absurd (hn.symm.trans z) q)
        cases e2 : b ρ with
        | ok f ρ' =>
          rw [e2] at a1
          cases f with
          | nx => exact (step ρ' (.inl e2)).symm
          | ct => exact (step ρ' (.inr e2)).symm
          | bk => exact a1.symm
          | rt d => exact a1.symm
        | exc x ρ' => rw [e2] at a1; exact a1.symm
        | bad => rfl
      | false => exact a1.symm
    | exc x => rw [e] at a1; exact a1.symm
    | bad => rfl
  · obtain ⟨n, hn⟩ := sWhile_some hb
    rw [← hn]
    cases n with
    | zero => exact absurd hn.symm hb
    | succ n =>
      rw [← hn] at hb
      unfold whileN at hb ⊢
      cases e : c ρ with
      | ok k =>
        rw [e] at hb
        simp only [stE_ok] at hb ⊢
        cases k with
        | true =>
          simp only [if_true] at hb ⊢
          cases e2 : b ρ with
          | ok f ρ' =>
            rw [e2] at hb
            cases f with
            | nx => exact (sWhile_of n hb).symm
            | ct => exact (sWhile_of n hb).symm
            | bk => rfl
            | rt d => rfl
          | exc x ρ' => rfl
          | bad => rfl
        | false => rfl
      | exc x => rfl
      | bad => rfl
theorem tsd_while {tc : TT} {tb : TS} {c : Env → Out Bool} {b : Env → SOut} (hc : TTD K W tc c la) (hb : TSD K W tb b) : TSD K W (tWhile tc tb) (sWhile c b) := by
  intro H0 A0 ρ σ H D s h
  have hne : sWhile c b ρ ≠ .bad := fun e => by rw [e] at h; exact h
  obtain ⟨n, hn⟩ := sWhile_some hne
  rw [← hn] at h
  refine ⟨fun m σ H => ∃ ρ, StOk K H0 A0 H ρ σ ∧ PostS K W H0 A0 (whileN m c b ρ) D, ⟨n, ρ, s, h⟩, ?_⟩
  rintro m σ H ⟨ρ, s, h⟩
  cases m with
  | zero => exact False.elim h
  | succ m =>
    unfold whileN at h
    refine hc _ _ _ _ _ _ s (PostS.st s h fun k _ h1 H1 s1 => ?_)
    cases k with
    | false => exact h1 σ H1 (s.grow s1)
    | true =>
      rw [if_pos rfl]
      simp only [if_true] at h1
      refine ⟨fun σ' H' => ∃ ρ, StOk K H0 A0 H' ρ σ' ∧ PostS K W H0 A0 (whileN m c b ρ) D, fun σ' H' q => ⟨m, Nat.lt_succ_self m, q⟩, ?_⟩
      refine hb _ _ _ _ _ _ (s.grow s1) ?_
      cases e : b ρ with
      | ok f ρ' =>
        rw [e] at h1
        cases f with
        | nx => exact fun σ' H' s' => ⟨ρ', s', h1⟩
        | ct => exact fun σ' H' s' => ⟨ρ', s', h1⟩
        | bk => exact fun σ' H' s' => h1 σ' H' s'
        | rt d => exact h1
      | exc x ρ' => rw [e] at h1; exact h1
      | bad => rw [e] at h1; exact h1
end
end FD

namespace FD
open PySem L2
/-! ### for -/
def Ow (ρ : Env) (σ : L2.St) (lk : List Nat) : Ad := fun a => ∃ i, i ∉ lk ∧ OwnAt ρ σ i a
open Classical in
/-- what stands for good: all but the own things that are not lent -/
noncomputable def Bs (H : Hp) (ρ : Env) (σ : L2.St) (lk : List Nat) : Hp := fun a => if Ow ρ σ lk a then none else H a
section
variable {K : PySem.W.Frag} {W : WX} {H0 H0' H H1 : Hp} {A0 : Ad} {ρ : Env} {σ : L2.St} {lk la lb : List Nat} {α : Type}
theorem Bs_ne {a : Addr} (h : ¬ Ow ρ σ lk a) : Bs H ρ σ lk a = H a := by unfold Bs; rw [if_neg h]
theorem Bs_ow {a : Addr} (h : Ow ρ σ lk a) : Bs H ρ σ lk a = none := by unfold Bs; rw [if_pos h]
theorem Bs_same : Same (Bs H ρ σ lk) H := fun a o e => by
  unfold Bs at e
  split at e
  · cases e
  · exact e
theorem StOk.owNew (s : StOk K H0 A0 H ρ σ) {a : Addr} (h : Ow ρ σ lk a) : H0 a = none := by
  obtain ⟨i, _, h⟩ := h
  exact (s.ownSome h).2
theorem StOk.rebase (s : StOk K H0 A0 H ρ σ) (hs : Same H H1) (lk : List Nat) : StOk K (Bs H1 ρ σ lk) A0 H1 (frz lk ρ) σ ∧ Same H0 (Bs H1 ρ σ lk) := by
  have s1 := s.grow hs
  obtain ⟨s2, h2⟩ := s1.fz lk
  have nA : ∀ a, A0 a → ¬ Ow ρ σ lk a := fun a z q => by
    have q1 := s.a0 a z
    rw [s.owNew q] at q1
    exact q1
  have own : ∀ a, H0 a = none → Av A0 (frz lk ρ) σ [] a → Bs H1 ρ σ lk a = none := fun a h0 z => by
    have q := h2 [] a z
    rw [List.append_nil] at q
    rcases q with q | q
    · have q1 := s.a0 a q
      rw [h0] at q1
      exact False.elim q1
    · exact Bs_ow q
  refine ⟨⟨Bs_same, fun a z => ?_, s2.len, s2.sh, fun i ds e => ?_, fun i ks ds e => ?_, s2.ap⟩, fun a o e => ?_⟩
  · rw [Bs_ne (nA a z)]
    exact s1.avMut (lk := []) (.inl z)
  · obtain ⟨a, vs, e1, h0, h1, r⟩ := s2.ol i ds e
    exact ⟨a, vs, e1, own a h0 (.inr ⟨i, (fun z => nomatch z), _, e, rfl, e1⟩), h1, r⟩
  · obtain ⟨a, vs, e1, h0, h1, h3, r⟩ := s2.od i ks ds e
    exact ⟨a, vs, e1, own a h0 (.inr ⟨i, (fun z => nomatch z), _, e, rfl, e1⟩), h1, h3, r⟩
  · rw [Bs_ne fun q => by rw [s.owNew q] at e; cases e]
    exact s1.same a o e
theorem StOk.weaken (h0 : Same H0 H0') (ha : ∀ a, A0 a → Mut (H0 a)) (s : StOk K H0' A0 H ρ σ) : StOk K H0 A0 H ρ σ :=
  ⟨h0.trans s.same, ha, s.len, s.sh, fun i ds e => by
    obtain ⟨a, vs, e1, hn, h1, r⟩ := s.ol i ds e
    exact ⟨a, vs, e1, h0.free hn, h1, r⟩, fun i ks ds e => by
    obtain ⟨a, vs, e1, hn, h1, h2, r⟩ := s.od i ks ds e
    exact ⟨a, vs, e1, h0.free hn, h1, h2, r⟩, s.ap⟩
theorem PostS.weaken {o : SOut} {D : Ends} (h0 : Same H0 H0') (ha : ∀ a, A0 a → Mut (H0 a)) (h : PostS K W H0 A0 o D) : PostS K W H0' A0 o D := by
  cases o with
  | ok f ρ =>
    cases f with
    | nx => exact fun σ H s => h σ H (s.weaken h0 ha)
    | bk => exact fun σ H s => h σ H (s.weaken h0 ha)
    | ct => exact fun σ H s => h σ H (s.weaken h0 ha)
    | rt d => exact fun v H s r => h v H (h0.trans s) r
  | exc x ρ => exact fun σ H c od s r => h σ H c od (s.weaken h0 ha) r
  | bad => exact h
/-- J walks ds, which stand in B -/
structure Walks (K : PySem.W.Frag) (B : Hp) (A0 : Ad) (J : It) (ds : List Dt) : Prop where
  go : ∀ i H, Same B H → i < ds.length → J.go i H
  stop : ∀ H, Same B H → J.stop ds.length H
  yld : ∀ (i : Nat) (H : Hp) (x : V) (H' : Hp) (d : Dt), Same B H → J.yld i H x H' → ds[i]? = some d → Same H H' ∧ ∀ A : Ad, (∀ a, A a → (A0 a ∨ B a = none) ∧ H a ≠ none) → Rep K H' A d x
def TID (K : PySem.W.Frag) (W : WX) (wi : TI) (f : Env → Out (List Dt)) (lk : List Nat) : Prop :=
  ∀ (H0 : Hp) (A0 : Ad) (ρ : Env) (σ : L2.St) (H : Hp) (R : It → Hp → Prop), StOk K H0 A0 H ρ σ → PostX K W H σ (f ρ) (fun ds => ∀ J H1, Same H H1 → Walks K (Bs H1 ρ σ lk) A0 J ds → R J H1) → wi σ H R
def PID (X : Cx) (W : WX) (tg iter : Expr) (f : Env → Out (List Dt)) (lk : List Nat) : Prop := ∃ wi, PI X tg iter wi ∧ TID X.K W wi f lk
def forD (u : Dt → Env → Option Env) (b : Env → SOut) : List Dt → Env → SOut
  | [], ρ => .ok .nx ρ
  | d :: ds, ρ => match u d ρ with
    | none => .bad
    | some ρ1 => match b ρ1 with
      | .ok .nx ρ' => forD u b ds ρ'
      | .ok .ct ρ' => forD u b ds ρ'
      | .ok .bk ρ' => .ok .nx ρ'
      | o => o
@[simp] theorem forD_nil (u : Dt → Env → Option Env) (b : Env → SOut) (ρ : Env) : forD u b [] ρ = .ok .nx ρ := rfl
theorem forD_cons (u : Dt → Env → Option Env) (b : Env → SOut) (d : Dt) (ds : List Dt) (ρ : Env) : forD u b (d :: ds) ρ = match u d ρ with
    | none => .bad
    | some ρ1 => match b ρ1 with
      | .ok .nx ρ' => forD u b ds ρ'
      | .ok .ct ρ' => forD u b ds ρ'
      | .ok .bk ρ' => .ok .nx ρ'
      | o => o := rfl
def sFor (u : Dt → Env → Option Env) (f : Env → Out (List Dt)) (lk : List Nat) (b : Env → SOut) : Env → SOut := fun ρ => stE (f ρ) ρ fun ds => forD u b ds (frz lk ρ)
theorem tsd_for {wi : TI} {g : TG} {tb : TS} {u : Dt → Env → Option Env} {f : Env → Out (List Dt)} {b : Env → SOut} {S : List Nat} (hi : TID K W wi f lk) (hg : TGD K g u S) (hb : TSD K W tb b) : TSD K W (tFor wi g tb) (sFor u f lk b) := by
  intro H0 A0 ρ σ H D s h
  refine hi _ _ _ _ _ _ s (PostS.st s h fun ds _ h1 J H1 s1 w => ?_)
  obtain ⟨sB, hB⟩ := s.rebase s1 lk
  have h2 := h1.weaken hB s.a0
  refine ⟨fun i m σ' H' => m + i = ds.length ∧ ∃ ρ', StOk K (Bs H1 ρ σ lk) A0 H' ρ' σ' ∧ PostS K W (Bs H1 ρ σ lk) A0 (forD u b (ds.drop i) ρ') D, ⟨ds.length, by omega, _, sB, h2⟩, ?_⟩
  rintro i m σ2 H2 ⟨hm, ρ2, s2, h3⟩
  by_cases hlt : i < ds.length
  · have hd : ds.drop i = ds[i] :: ds.drop (i + 1) := List.drop_eq_getElem_cons hlt
    rw [hd, forD_cons] at h3
    refine .inr ⟨w.go i H2 s2.same hlt, fun σ' H' => ∃ ρ', StOk K (Bs H1 ρ σ lk) A0 H' ρ' σ' ∧ PostS K W (Bs H1 ρ σ lk) A0 (forD u b (ds.drop (i + 1)) ρ') D, fun σ' H' q => ⟨m - 1, by omega, by omega, q⟩, fun x H3 y => ?_⟩
    obtain ⟨s3, r3⟩ := w.yld i H2 x H3 ds[i] s2.same y (List.getElem?_eq_getElem hlt)
    have r4 : Rep K H3 (Av A0 ρ2 σ2 []) ds[i] x := r3 _ fun a z => ⟨z.elim .inl fun z => .inr (s2.owNew (lk := []) z), s2.avSome z⟩
    split at h3
    · exact False.elim h3
    · rename_i ρ3 e3
      refine hg _ _ _ _ _ _ _ _ _ (s2.grow s3) r4 e3 fun σ4 s4 _ _ => ?_
      refine hb _ _ _ _ _ _ s4 ?_
      cases e : b ρ3 with
      | ok fl ρ' =>
        rw [e] at h3
        cases fl with
        | nx => exact fun σ' H' s' => ⟨ρ', s', h3⟩
        | ct => exact fun σ' H' s' => ⟨ρ', s', h3⟩
        | bk => exact fun σ' H' s' => h3 σ' H' s'
        | rt d => exact h3
      | exc x ρ' => rw [e] at h3; exact h3
      | bad => rw [e] at h3; exact h3
  · have e : i = ds.length := by omega
    subst e
    rw [List.drop_length] at h3
    exact .inl ⟨w.stop H2 s2.same, h3 σ2 H2 s2⟩

/-! a list, a tuple, a text -/
def Dt.seq : Dt → Option (List Dt)
  | .tup ds => some ds
  | .lst ds => some ds
  | .fls ds => some ds
  | .str s => some (s.cps.toList.map fun c => .str ⟨#[c]⟩)
  | _ => none
@[simp] theorem Dt.seq_tup (ds : List Dt) : (Dt.tup ds).seq = some ds := rfl
@[simp] theorem Dt.seq_lst (ds : List Dt) : (Dt.lst ds).seq = some ds := rfl
@[simp] theorem Dt.seq_fls (ds : List Dt) : (Dt.fls ds).seq = some ds := rfl
@[simp] theorem Dt.seq_str (s : Str) : (Dt.str s).seq = some (s.cps.toList.map fun c => .str ⟨#[c]⟩) := rfl
def oSeq (f : Env → Out Dt) : Env → Out (List Dt) := fun ρ => (f ρ).bind fun d => ofO d.seq
def iSeq (K : PySem.W.Frag) (tl : TE) : TI := fun σ H R => tl σ H fun x H1 => (∃ a, x = .ref a ∧ (∃ xs, SqL K H1 a xs) ∧ R (Itl K a) H1) ∨ (∃ a, x = .ref a ∧ (∃ xs, SqT K H1 a xs) ∧ R (Itt K a) H1) ∨ ∃ z, x = .str z ∧ R (Its z) H1
/-- data that stands in B, seen later with more avoided -/
theorem Rep.later {B : Hp} (hs : Same B H) {d : Dt} {v : V} (r : Rep K B A0 d v) {A : Ad} (ha : ∀ a, A a → A0 a ∨ B a = none) : Rep K H A d v := by
  refine Rep.mono (H := B) (A := fun a => A a ∨ A0 a) (fun a o _ e => hs a o e) (fun a z => .inl z) d v ?_
  -- all addresses that r uses stand in B
  refine Rep.anti (A := fun a => A0 a ∨ B a = none) (fun a z => z.elim (fun z => ha a z) .inl) ?_
  exact Rep.inDom _ _ r
theorem Rep.inB {d : Dt} {v : V} (r : Rep K H (Av A0 ρ σ lk) d v) : Rep K (Bs H ρ σ lk) A0 d v :=
  Rep.mono (fun a o n e => by rw [Bs_ne fun q => n (.inr q)]; exact e) (fun a z => .inl z) d v r
theorem Itl_walks {a : Addr} {vs : List V} {ds : List Dt} {B : Hp} (hl : ∀ H', Same B H' → SqL K H' a vs) (r : Reps K B A0 ds vs) : Walks K B A0 (Itl K a) ds where
  go := fun i H hs hi => ⟨vs, vs[i]'(by rw [r.length]; exact hi), hl H hs, List.getElem?_eq_getElem _⟩
  stop := fun H hs => ⟨vs, hl H hs, by rw [r.length]; exact Nat.le_refl _⟩
  yld := fun i H x H' d hs y e => by
    obtain ⟨rfl, y⟩ := y
    have q := y vs (hl _ hs)
    obtain ⟨v, e1, r1⟩ := r.get e
    rw [q] at e1
    cases e1
    exact ⟨Same.refl _, fun A ha => Rep.later hs r1 fun a z => (ha a z).1⟩
theorem Itt_walks {a : Addr} {vs : List V} {ds : List Dt} {B : Hp} (hl : ∀ H', Same B H' → SqT K H' a vs) (r : Reps K B A0 ds vs) : Walks K B A0 (Itt K a) ds where
  go := fun i H hs hi => ⟨vs, vs[i]'(by rw [r.length]; exact hi), hl H hs, List.getElem?_eq_getElem _⟩
  stop := fun H hs => ⟨vs, hl H hs, by rw [r.length]; exact Nat.le_refl _⟩
  yld := fun i H x H' d hs y e => by
    obtain ⟨rfl, y⟩ := y
    have q := y vs (hl _ hs)
    obtain ⟨v, e1, r1⟩ := r.get e
    rw [q] at e1
    cases e1
    exact ⟨Same.refl _, fun A ha => Rep.later hs r1 fun a z => (ha a z).1⟩
theorem Reps.inB {ds : List Dt} {vs : List V} (r : Reps K H (Av A0 ρ σ lk) ds vs) : Reps K (Bs H ρ σ lk) A0 ds vs :=
  Reps.mono (fun a o n e => by rw [Bs_ne fun q => n (.inr q)]; exact e) (fun a z => .inl z) ds vs r
theorem tid_seq {tl : TE} {f : Env → Out Dt} (ha : TED K W tl f lk) : TID K W (iSeq K tl) (oSeq f) lk := by
  intro H0 A0 ρ σ H R s h
  unfold oSeq at h
  refine ha _ _ _ _ _ _ s (h.seq fun d _ h1 v H1 s1 r1 => ?_)
  obtain ⟨ds, e, q⟩ := ofO_seq h1
  cases d <;> try (cases e; done)
  · rename_i z _
    cases e
    have e1 : v = .str z := r1
    subst e1
    refine .inr (.inr ⟨z, rfl, q _ _ s1 ⟨fun i H' _ hi => ?_, fun H' _ => ?_, fun i H' x H'' d hs y e => ?_⟩⟩)
    · simpa [Its] using hi
    · simp [Its]
    · obtain ⟨rfl, c, e1, rfl⟩ := y
      refine ⟨Same.refl _, fun A _ => ?_⟩
      rw [List.getElem?_map] at e
      have e2 : z.cps.toList[i]? = some c := by simpa using e1
      rw [e2] at e
      cases e
      rfl
  · rename_i es _
    cases e
    unfold Rep at r1
    obtain ⟨a, vs, rfl, h1', r⟩ := r1
    have hl : ∀ H', Same (Bs H1 ρ σ lk) H' → SqT K H' a vs := fun H' hs => by
      rcases h1' with ⟨n, e⟩ | h
      · exact SqT.of (hs _ _ (by rw [Bs_ne fun q => n (.inr q)]; exact e))
      · exact .inr h
    exact .inr (.inl ⟨a, rfl, ⟨vs, SqT.of' h1'⟩, q _ _ s1 (Itt_walks hl r.inB)⟩)
  · rename_i es _
    cases e
    unfold Rep at r1
    obtain ⟨a, vs, rfl, n, e, r⟩ := r1
    have hB : Bs H1 ρ σ lk a = some (.lst vs) := by rw [Bs_ne fun q => n (.inr q)]; exact e
    exact .inl ⟨a, rfl, ⟨vs, SqL.of e⟩, q _ _ s1 (Itl_walks (fun H' hs => SqL.of (hs _ _ hB)) r.inB)⟩
  · rename_i es _
    cases e
    unfold Rep at r1
    obtain ⟨a, vs, rfl, h1', r⟩ := r1
    have hl : ∀ H', Same (Bs H1 ρ σ lk) H' → SqL K H' a vs := fun H' hs => by
      rcases h1' with ⟨n, o, e⟩ | h
      · exact .inl (.inr ⟨o, hs _ _ (by rw [Bs_ne fun q => n (.inr q)]; exact e)⟩)
      · exact .inr h
    exact .inl ⟨a, rfl, ⟨vs, hl H1 Bs_same⟩, q _ _ s1 (Itl_walks hl r.inB)⟩
/-! ranges -/
def rngD (lo : Int) (n : Nat) : List Dt := (List.range n).map fun (k : Nat) => Dt.int (lo + (k : Int))
theorem rngD_length (lo : Int) (n : Nat) : (rngD lo n).length = n := by unfold rngD; simp
def smallB (i : Int) : Bool := decide (-(2 ^ 62) ≤ i ∧ i < 2 ^ 62)
def oRng : List Dt → Option (List Dt)
  | [.int j] => if smallB j = true then some (rngD 0 j.toNat) else none
  | [.int i, .int j] => if smallB i = true ∧ smallB j = true then some (rngD i (j - i).toNat) else none
  | _ => none
@[simp] theorem oRng_1 (j : Int) : oRng [.int j] = if smallB j = true then some (rngD 0 j.toNat) else none := rfl
@[simp] theorem oRng_2 (i j : Int) : oRng [.int i, .int j] = if smallB i = true ∧ smallB j = true then some (rngD i (j - i).toNat) else none := rfl
def oRange (f : Env → Out (List Dt)) : Env → Out (List Dt) := fun ρ => (f ρ).bind fun ds => ofO (oRng ds)
theorem Itr_walks (lo : Int) (n : Nat) (B : Hp) : Walks K B A0 (Itr lo n) (rngD lo n) where
  go := fun i H _ hi => by rw [rngD_length] at hi; exact hi
  stop := fun H _ => by rw [rngD_length]; exact Nat.le_refl n
  yld := fun i H x H' d _ y e => by
    obtain ⟨rfl, rfl⟩ := y
    refine ⟨Same.refl _, fun A _ => ?_⟩
    unfold rngD at e
    rw [List.getElem?_map] at e
    cases e1 : (List.range n)[i]? with
    | none => rw [e1] at e; cases e
    | some k =>
      rw [e1] at e
      obtain ⟨_, e2⟩ := List.getElem?_eq_some_iff.mp e1
      rw [List.getElem_range] at e2
      subst e2
      cases e
      rfl
theorem reps1 {K : PySem.W.Frag} {H : Hp} {A : Ad} {d : Dt} {vs : List V} (r : Reps K H A [d] vs) : ∃ v, vs = [v] ∧ Rep K H A d v := by
  unfold Reps at r
  obtain ⟨v, t, rfl, h1, h2⟩ := r
  unfold Reps at h2
  exact ⟨v, by rw [h2], h1⟩
theorem reps2 {K : PySem.W.Frag} {H : Hp} {A : Ad} {d e : Dt} {vs : List V} (r : Reps K H A [d, e] vs) : ∃ v u, vs = [v, u] ∧ Rep K H A d v ∧ Rep K H A e u := by
  unfold Reps at r
  obtain ⟨v, t, rfl, h1, h2⟩ := r
  obtain ⟨u, rfl, h3⟩ := reps1 h2
  exact ⟨v, u, rfl, h1, h3⟩
theorem smallB_iff {i : Int} : smallB i = true ↔ -(2 ^ 62) ≤ i ∧ i < 2 ^ 62 := by unfold smallB; exact decide_eq_true_iff
theorem tid_rng1 {ta : TA} {f : Env → Out (List Dt)} (hn : ∀ ρ ds, f ρ = .ok ds → ds.length = 1) (ha : TAD K W ta f lk) : TID K W (iRng1 ta) (oRange f) [] := by
  intro H0 A0 ρ σ H R s h
  unfold oRange at h
  refine ha _ _ _ _ _ _ s (h.seq fun ds e0 h1 vs H1 s1 r1 => ?_)
  obtain ⟨es, e, q⟩ := ofO_seq h1
  match ds, hn ρ ds e0 with
  | [.int j], _ =>
    rw [oRng_1] at e
    obtain ⟨c, rfl⟩ := some_ite e
    obtain ⟨v, rfl, r⟩ := reps1 r1
    have e1 : v = .int j := r
    subst e1
    rw [smallB_iff] at c
    exact ⟨j, rfl, c.1, c.2, q _ _ s1 (Itr_walks 0 _ _)⟩
  | [.non], _ => cases e
  | [.bl _], _ => cases e
  | [.str _], _ => cases e
  | [.ty _], _ => cases e
  | [.cls _], _ => cases e
  | [.tup _], _ => cases e
  | [.lst _], _ => cases e
  | [.fls _], _ => cases e
  | [.dic _ _], _ => cases e
  | [.obj _ _ _], _ => cases e
  | [.exn _ _ _ _ _], _ => cases e
theorem oRng2_inv {a b : Dt} {es : List Dt} (e : oRng [a, b] = some es) : ∃ i j, a = .int i ∧ b = .int j ∧ (smallB i = true ∧ smallB j = true) ∧ es = rngD i (j - i).toNat := by
  cases a <;> cases b <;> try (cases e; done)
  rename_i i j
  rw [oRng_2] at e
  obtain ⟨c, rfl⟩ := some_ite e
  exact ⟨i, j, rfl, rfl, c, rfl⟩
theorem tid_rng2 {ta : TA} {f : Env → Out (List Dt)} (hn : ∀ ρ ds, f ρ = .ok ds → ds.length = 2) (ha : TAD K W ta f lk) : TID K W (iRng2 ta) (oRange f) [] := by
  intro H0 A0 ρ σ H R s h
  unfold oRange at h
  refine ha _ _ _ _ _ _ s (h.seq fun ds e0 h1 vs H1 s1 r1 => ?_)
  obtain ⟨es, e, q⟩ := ofO_seq h1
  match ds, hn ρ ds e0, e, r1 with
  | [a, b], _, e, r1 =>
    obtain ⟨i, j, rfl, rfl, ⟨c1, c2⟩, rfl⟩ := oRng2_inv e
    obtain ⟨v, u, rfl, r, r'⟩ := reps2 r1
    have e1 : v = .int i := r
    have e2 : u = .int j := r'
    subst e1 e2
    rw [smallB_iff] at c1 c2
    exact ⟨i, j, rfl, ⟨c1.1, c1.2, c2.1, c2.2⟩, q _ _ s1 (Itr_walks i _ _)⟩
theorem len_nil : ∀ ρ ds, aNil ρ = .ok ds → ds.length = 0 := fun ρ ds h => by cases h; rfl
theorem len_cons {n : Nat} {f : Env → Out Dt} {g : Env → Out (List Dt)} (h : ∀ ρ ds, g ρ = .ok ds → ds.length = n) : ∀ ρ ds, aCons f g ρ = .ok ds → ds.length = n + 1 := fun ρ ds e => by
  obtain ⟨d, _, e1⟩ := Out.bind_eq_ok e
  obtain ⟨es, e2, e3⟩ := Out.bind_eq_ok e1
  cases e3
  rw [List.length_cons, h _ _ e2]
end
section
variable {X : Cx} {W : WX} {tg e a b : Expr} {f fa fb : Env → Out Dt} {lk la lb : List Nat} {p pos : Pos}
open PySem.Spec PyProof.Rows in
theorem pi_any {l : Expr} {tl : TE} (hl : PE X l tl) : PI X tg l (iSeq X.K tl) := by
  refine ⟨fun pins s σ H R I h => ?_⟩
  refine thn (hl.run pins s σ H _ I h) fun v s1 ⟨x, H1, I1, r1, q1⟩ => ?_
  rcases q1 with ⟨a, e, ⟨xs, hq⟩, q⟩ | ⟨a, e, ⟨xs, hq⟩, q⟩ | ⟨z, e, q⟩
  · subst e
    cases r1
    obtain ⟨its, rv, p, hz⟩ := I1.list hq
    refine wpAny_pyIter_list p.isList ?_
    refine ⟨s1.heap.objs.size, [s1.heap.objs.size], _, _, H1, rfl, I1.kept (t' := s1.toks) fun b o e => Heap.get?_push_of_some _ e, turn_list a _, ⟨_, Heap.get?_push_size _ rfl, rfl, rfl⟩, fun b hb => ?_, q⟩
    have e : b = s1.heap.objs.size := by simpa using hb
    subst e
    exact I1.fpOk (Nat.le_refl _) (I1.hok.fresh (Nat.le_refl _))
  · subst e
    cases r1
    obtain ⟨its, rv, p, hz⟩ := I1.tuple hq
    refine wpAny_pyIter_tuple (show s1.heap.IsTuple a its.toArray from p) ?_
    refine ⟨s1.heap.objs.size, [s1.heap.objs.size], _, _, H1, rfl, I1.kept (t' := s1.toks) fun b o e => Heap.get?_push_of_some _ e, turn_tuple a _, ⟨_, Heap.get?_push_size _ rfl, rfl, rfl⟩, fun b hb => ?_, q⟩
    have e : b = s1.heap.objs.size := by simpa using hb
    subst e
    exact I1.fpOk (Nat.le_refl _) (I1.hok.fresh (Nat.le_refl _))
  · subst e
    obtain ⟨t, rfl⟩ := r1
    cases ha : z.cps.all (· < 128)
    · exact wpAny_pyIter_wide ha (pi_one (tk := s1.toks) I1 _ (turn_str _ z t "str_iterator" (.inr rfl)) ⟨_, Heap.get?_push_size _ rfl, rfl, rfl⟩ q)
    · exact wpAny_pyIter_ascii ha (pi_one (tk := s1.toks) I1 _ (turn_str _ z t "str_ascii_iterator" (.inl rfl)) ⟨_, Heap.get?_push_size _ rfl, rfl, rfl⟩ q)
theorem pi_seqD (h : PED X W e f lk) : PID X W tg e (oSeq f) lk := by
  obtain ⟨te, pe, de⟩ := h
  exact ⟨_, pi_any pe, tid_seq de⟩
theorem pi_rng1D (hg : Gl X "range") (hm : X.mg "range" = none) (ha : PED X W a fa la) (hs : starEach [a] X.env = [(false, eval a X.env)] := by rfl) : PID X W tg (.Call (.Name "range" p) [a] [] pos) (oRange (aCons fa aNil)) [] := by
  obtain ⟨ta, pa, da⟩ := pa_consD (es := []) ha pa_nilD hs
  exact ⟨_, pi_range1 hg hm pa hs, tid_rng1 (len_cons len_nil) da⟩
theorem pi_rng2D (hg : Gl X "range") (hm : X.mg "range" = none) (ha : PED X W a fa la) (hb : PED X W b fb lb) (hs : starEach [a, b] X.env = [(false, eval a X.env), (false, eval b X.env)] := by rfl) (hs2 : starEach [b] X.env = [(false, eval b X.env)] := by rfl) :
    PID X W tg (.Call (.Name "range" p) [a, b] [] pos) (oRange (aCons fa (aCons fb aNil))) [] := by
  obtain ⟨ta, pa, da⟩ := pa_consD (es := [b]) ha (pa_consD (es := []) hb pa_nilD hs2) (by rw [hs, hs2])
  exact ⟨_, pi_range2 hg hm pa hs hs2, tid_rng2 (len_cons (len_cons len_nil)) da⟩
end
end FD

namespace FD
open PySem L2 PyProof.Rows PySem.Spec
/-! ### statements, by their rules -/
section
variable {X : Cx} {W : WX} {e a b c iter tg : Expr} {f fa fb : Env → Out Dt} {fl : Env → Out (List Dt)} {ft : Env → Out Bool} {lk la lb : List Nat} {pos p : Pos} {st : Stmt} {rest body els : List Stmt} {g h : Env → SOut} {u : Dt → Env → Option Env}
theorem s_nil : PSsD X W [] sNext := ⟨_, pss_nil, tsd_next⟩
theorem s_cons (h1 : PSD X W st g) (h2 : PSsD X W rest h) : PSsD X W (st :: rest) (sSeq g h) := by
  obtain ⟨t, p, d⟩ := h1
  obtain ⟨t', p', d'⟩ := h2
  exact ⟨_, pss_cons p p', tsd_seq d d'⟩
theorem s_one (h1 : PSD X W st g) : PSsD X W [st] g := by
  obtain ⟨t, p, d⟩ := h1
  exact ⟨_, pss_one p, d⟩
theorem s_pass : PSD X W (.Pass pos) sNext := ⟨_, ps_pass, tsd_next⟩
theorem s_brk : PSD X W (.Break pos) sBrk := ⟨_, ps_break, tsd_brk⟩
theorem s_cont : PSD X W (.Continue pos) sCont := ⟨_, ps_continue, tsd_cont⟩
theorem s_ret (h : PED X W e f lk) : PSD X W (.Return (some e) pos) (sRet f) := by
  obtain ⟨t, p, d⟩ := h
  exact ⟨_, ps_ret p, tsd_ret d⟩
theorem s_retN : PSD X W (.Return none pos) sRetN := ⟨_, ps_retN, tsd_retN⟩
theorem s_if (hc : PTD X W c ft lk) (ha : PSsD X W body g) (hb : PSsD X W els h) : PSD X W (.If c body els pos) (sIf ft g h) := by
  obtain ⟨t, p, d⟩ := hc
  obtain ⟨t1, p1, d1⟩ := ha
  obtain ⟨t2, p2, d2⟩ := hb
  exact ⟨_, ps_if p p1 p2, tsd_if d d1 d2⟩
theorem s_drop (h : PED X W e f lk) (hs : swapsWith e none pos.line X.env = pure false := by rfl) : PSD X W (.Expr e pos) (sDrop f) := by
  obtain ⟨t, p, d⟩ := h
  exact ⟨_, ps_expr p hs, tsd_drop d⟩
theorem s_set (i : Nat) {x : Str} {pos' : Pos} (hN : X.N.Nodup) (h : PED X W e f lk) (hi : X.N[i]? = some x := by rfl) (hx : Loc X.env.scope x := by first | exact Or.inl rfl | exact Or.inr rfl) (hs : swapsWith e (some (.Name x pos')) pos.line X.env = pure false := by rfl)
    (hf : X.fn x = true ∨ X.env.scope.names.lookup x = some .local := by first | exact .inl rfl | exact .inr rfl | assumption) : PSD X W (.Assign [.Name x pos'] e pos) (sSet i f lk) := by
  obtain ⟨t, p, d⟩ := h
  exact ⟨_, ps_set hN hi hx p hs hf, tsd_set d⟩
theorem s_setL (i : Nat) {x : Str} {pos' : Pos} (hN : X.N.Nodup) (h : PLD X W e fl lk) (hi : X.N[i]? = some x := by rfl) (hx : Loc X.env.scope x := by first | exact Or.inl rfl | exact Or.inr rfl) (hs : swapsWith e (some (.Name x pos')) pos.line X.env = pure false := by rfl)
    (hf : X.fn x = true ∨ X.env.scope.names.lookup x = some .local := by first | exact .inl rfl | exact .inr rfl | assumption) : PSD X W (.Assign [.Name x pos'] e pos) (sSetL i fl lk) := by
  obtain ⟨t, p, d⟩ := h
  exact ⟨_, ps_set hN hi hx p hs hf, tsd_setL d⟩
/-- x.append(e), x an own list -/
theorem s_append (i : Nat) {x : Str} {p1 p2 p3 : Pos} (h : PED X W e f lk) (hN : X.N[i]? = some x := by rfl) (hv : Vis X.env.scope x := by first | exact Or.inl rfl | exact Or.inr (Or.inl rfl) | exact Or.inr (Or.inr rfl)) (hd : (x == ("__debug__" : Str)) = false := by decide)
    (hcd : (x == ("__classdict__" : Str)) = false := by decide) (hs : starEach [e] X.env = (false, eval e X.env) :: starEach [] X.env := by rfl) (hbase : attributeBase (.Name x p1) "append" X.env (eval (.Name x p1) X.env) = eval (.Name x p1) X.env := by rfl)
    (hfew : ((backTo p3 (starEach [e] X.env)).all (fun x => !x.1) && (backToKw p3 (keywordEach [] X.env)).all (fun x => x.1.isSome)
      && decide (([e] : List Expr).length + ([] : List Keyword).length + (if ([] : List Keyword).isEmpty then 0 else 1) < 30)) = true := by rfl) (hline : (p2.endLine == p3.line) = true := by rfl) (hsw : swapsWith (.Call (.Attribute (.Name x p1) "append" p2) [e] [] p3) none pos.line X.env = pure false := by rfl) : PSD X W (.Expr (.Call (.Attribute (.Name x p1) "append" p2) [e] [] p3) pos) (sAppend i f lk) := by
  obtain ⟨t, p, d⟩ := h
  exact ⟨_, ps_expr (pe_bm PySem.F.plainAttrs_list PySem.F.slot_list_append PySem.F.type_list_append mt_append (pe_var hN hv hd hcd) (pa_cons p pa_nil hs) hbase hfew hline hs rfl) hsw, tsd_append d⟩
theorem g_name (i : Nat) {x : Str} (hN : X.N.Nodup) (hi : X.N[i]? = some x := by rfl) (hx : Loc X.env.scope x := by first | exact Or.inl rfl | exact Or.inr rfl) (hf : X.fn x = true ∨ X.env.scope.names.lookup x = some .local := by first | exact .inl rfl | exact .inr rfl | assumption) : PGD X (.Name x pos) (uName i) [i] :=
  ⟨_, pg_name hN hi hx hf, tgd_name⟩
theorem gs_nil : PGsD X [] uNil [] := ⟨_, pgs_nil, tgsd_nil⟩
theorem gs_cons {es : List Expr} {us : List Dt → Env → Option Env} {S T : List Nat} (h1 : PGD X e u S) (h2 : PGsD X es us T) (hs : (assignEach (e :: es) X.env).map (·.2) = assign e X.env :: (assignEach es X.env).map (·.2) := by rfl) : PGsD X (e :: es) (uCons u us) (S ++ T) := by
  obtain ⟨t, p, d⟩ := h1
  obtain ⟨t', p', d'⟩ := h2
  exact ⟨_, pgs_cons p p' hs, tgsd_cons d d'⟩
theorem ulen_nil : ∀ ds ρ ρ', uNil ds ρ = some ρ' → ds.length = 0 := fun ds ρ ρ' h => by
  cases ds with
  | nil => rfl
  | cons d ds => cases h
theorem ulen_cons {us : List Dt → Env → Option Env} {n : Nat} (h : ∀ ds ρ ρ', us ds ρ = some ρ' → ds.length = n) : ∀ ds ρ ρ', uCons u us ds ρ = some ρ' → ds.length = n + 1 := fun ds ρ ρ' e => by
  cases ds with
  | nil => cases e
  | cons d ds =>
    have e' : (u d ρ).bind (fun ρ' => us ds ρ') = some ρ' := e
    cases e1 : u d ρ with
    | none => rw [e1] at e'; cases e'
    | some ρ1 =>
      rw [e1] at e'
      rw [List.length_cons, h _ _ _ e']
theorem g_tup {es : List Expr} {k n : Nat} {us : List Dt → Env → Option Env} {S : List Nat} (hc : X.calm = true) (h : PGsD X es us S) (hn : ∀ ds ρ ρ', us ds ρ = some ρ' → ds.length = n) (hl : (assignEach es X.env).length = n := by rfl) (hst : (assignEach es X.env).findIdx? (·.1) = none := by rfl) :
    PGD X (.Tuple es k pos) (uTup us) S := by
  obtain ⟨t, p, d⟩ := h
  exact ⟨_, pg_tup hc p hl hst, tgd_tup d hn⟩
theorem s_asg {S : List Nat} (ha : PED X W e f lk) (hg : PGD X tg u S) (hs : swapsWithSole [tg] e pos.line X.env = pure false := by rfl) (hw : swappedStores [tg] e X.env = pure none := by rfl) (h1 : (assignEach [tg] X.env).map (·.2) = [assign tg X.env] := by rfl) :
    PSD X W (.Assign [tg] e pos) (sAsg u f lk) := by
  obtain ⟨t, p, d⟩ := ha
  obtain ⟨t', p', d'⟩ := hg
  exact ⟨_, ps_asg p p' hs hw h1, tsd_asg d d'⟩
/-- x[k] = e, x an own list -/
theorem s_setIx (i : Nat) {x : Str} {p1 p2 : Pos} (h : PED X W e f lk) (hi : PED X W a fa la) (hN : X.N[i]? = some x := by rfl) (hv : Vis X.env.scope x := by first | exact Or.inl rfl | exact Or.inr (Or.inl rfl) | exact Or.inr (Or.inr rfl)) (hd : (x == ("__debug__" : Str)) = false := by decide)
    (hcd : (x == ("__classdict__" : Str)) = false := by decide) (ha : ∀ v, assign (.Subscript (.Name x p1) a p2) X.env v = (do
      let ov ← holding [v] (eval (.Name x p1) X.env)
      let iv ← holding [v, ov] (eval a X.env)
      standAt p2
      holding [v, ov, iv] (setItem ov iv v)
      release [v, ov, iv] []) := by intro _; rfl) (hs : swapsWithSole [.Subscript (.Name x p1) a p2] e pos.line X.env = pure false := by rfl) (hw : swappedStores [.Subscript (.Name x p1) a p2] e X.env = pure none := by rfl)
    (h1 : (assignEach [.Subscript (.Name x p1) a p2] X.env).map (·.2) = [assign (.Subscript (.Name x p1) a p2) X.env] := by rfl) : PSD X W (.Assign [.Subscript (.Name x p1) a p2] e pos) (sSetIx i fa f lk) := by
  obtain ⟨t, p, d⟩ := h
  obtain ⟨t', p', d'⟩ := hi
  exact ⟨_, ps_asg p (pg_sub (pe_var hN hv hd hcd) p' set_list ha) hs hw h1, tsd_setIx d d'⟩
theorem s_for {S : List Nat} (hp : PassesOwn (model X.prog X.w) X.A X.env X.xe) (hc : X.calm = true) (hi : PID X W tg iter fl lk) (hg : PGD X tg u S) (hb : PSsD X W body g) (hs : ∀ x, foldedSetIterable iter X.env x = pure x := by intro _; rfl) : PSD X W (.For tg iter body [] pos) (sFor u fl lk g) := by
  obtain ⟨t, p, d⟩ := hi
  obtain ⟨t', p', d'⟩ := hg
  obtain ⟨t2, p2, d2⟩ := hb
  exact ⟨_, ps_for hp hc p p' p2 hs, tsd_for d d' d2⟩
theorem s_while (hp : PassesOwn (model X.prog X.w) X.A X.env X.xe) (hc : PTD X W c ft lk) (hb : PSsD X W body g) : PSD X W (.While c body [] pos) (sWhile ft g) := by
  obtain ⟨t, p, d⟩ := hc
  obtain ⟨t2, p2, d2⟩ := hb
  exact ⟨_, ps_while hp p p2, tsd_while d d2⟩
end
/-! ### defs -/
/-- what a def promises: its meaning φ -/
def spD (K : PySem.W.Frag) (n : Nat) (φ : List Dt → Out Dt) : Sp := fun vs H Q E => ∃ (ds : List Dt) (A : Ad), Reps K H A ds vs ∧ ds.length = n ∧ (∀ a, A a → Mut (H a)) ∧ match φ ds with
  | .ok d => ∀ v H', Same H H' → Rep K H' A d v → Q v H'
  | .exc x => ∀ c od H', Same H H' → ExOk K H' x c od → E c od H'
  | .bad => False
/-- from a body's meaning to the def's -/
def runD (n : Nat) (g : Env → SOut) (ds : List Dt) : Out Dt := match g (ds.map (fun d => some (Lo.sh d)) ++ List.replicate (n - ds.length) none) with
  | .ok .nx _ => .ok .non
  | .ok (.rt d) _ => .ok d
  | .exc x _ => .exc x
  | _ => .bad
section
variable {P : Program} {w : World} {K : PySem.W.Frag} {mg : Str → Option Value} {base : Heap} {H : Hp} {A : Ad}
theorem start_ok {N : List Str} {ds : List Dt} {vs : List V} (r : Reps K H A ds vs) (ha : ∀ a, A a → Mut (H a)) : StOk K H A H (ds.map (fun d => some (Lo.sh d)) ++ List.replicate (N.length - ds.length) none) (L2.start N vs) := by
  have own : ∀ i a, ¬ OwnAt (ds.map (fun d => some (Lo.sh d)) ++ List.replicate (N.length - ds.length) none) (L2.start N vs) i a := by
    rintro i a ⟨l, e, ho, _⟩
    by_cases h : i < ds.length
    · rw [List.getElem?_append_left (by simpa using h), List.getElem?_map, List.getElem?_eq_getElem h] at e
      cases e
      cases ho
    · rw [List.getElem?_append_right (by simpa using Nat.le_of_not_lt h), List.getElem?_replicate] at e
      split at e <;> cases e
  have av : ∀ lk a, Av A (ds.map (fun d => some (Lo.sh d)) ++ List.replicate (N.length - ds.length) none) (L2.start N vs) lk a → A a := by
    rintro lk a (z | ⟨i, _, z⟩)
    · exact z
    · exact absurd z (own i a)
  have cases' : ∀ (i : Nat) (l : Lo), (ds.map (fun d => some (Lo.sh d)) ++ List.replicate (N.length - ds.length) none)[i]? = some (some l) → ∃ d, ds[i]? = some d ∧ l = .sh d := fun i l e => by
    by_cases h : i < ds.length
    · rw [List.getElem?_append_left (by simpa using h), List.getElem?_map, List.getElem?_eq_getElem h] at e
      cases e
      exact ⟨_, List.getElem?_eq_getElem h, rfl⟩
    · rw [List.getElem?_append_right (by simpa using Nat.le_of_not_lt h), List.getElem?_replicate] at e
      split at e <;> cases e
  refine ⟨Same.refl H, ha, by unfold L2.start; simp [r.length], fun i d e => ?_, fun i es e => ?_, fun i ks es e => ?_, fun i j a h => absurd h (own i a)⟩
  · obtain ⟨d', e1, e2⟩ := cases' i _ e
    cases e2
    obtain ⟨v, e3, r3⟩ := r.get e1
    refine ⟨v, ?_, r3.anti fun a z => av [] a z⟩
    unfold L2.start
    have hi : i < vs.length := (List.getElem?_eq_some_iff.mp e3).1
    rw [List.getElem?_append_left (by simpa using hi), List.getElem?_map, e3]
    rfl
  · obtain ⟨d', _, e2⟩ := cases' i _ e
    cases e2
  · obtain ⟨d', _, e2⟩ := cases' i _ e
    cases e2
/-- a def as it stands: its promise by the meaning φ, and how it is called -/
structure Cl (P : Program) (w : World) (K : PySem.W.Frag) (mg : Str → Option Value) (base : Heap) (x : Str) (k : Nat) (n : Nat) (dd : List Dt) (φ : List Dt → Out Dt) : Prop where
  ex : ∃ (f : Addr) (fd : FuncData) (ps : List Str) (ds : List Value) (dvs : List V), FnOk P w K mg base (L2.CX P w) k f fd ps (spD K n φ) ∧ mg x = some (.ref f) ∧ PySem.W.keepIn K (.ref f) = true ∧ Binds K fd ps ds ∧ Vals dvs ds ∧ ∀ H A, Reps K H A dd dvs
theorem def_ok {x qual : Str} {st : Stmt} {f : Addr} {fd : FuncData} {N ps : List Str} {k : Nat} {g : Env → SOut} (F : Fun K x qual st f fd) (S : FnScope N ps (defScope st))
    (hb : ∀ (cdv : Value) (A : Around) (outer : List PySem.Env) (s : Shared) (H : Hp) (E : XK), Room k (A.deeper (envOfC qual (defScope st) s.heap.objs.size f cdv)) →
      PSsD (cxOf (L2.CX P w) P w K mg base N qual (defScope st) f cdv A outer s H E) (fun c d _ H' => E c d H') (defBody st) g) :
    FnOk P w K mg base (L2.CX P w) (k + 1) f fd ps (spD K ps.length (runD N.length g)) := by
  refine F.okX S (fun vs H Q E h => ?_) (fun cdv A outer s H vs Q E hr h => ?_)
  · obtain ⟨ds, A, r, hl, _⟩ := h
    rw [r.length, hl]
  · obtain ⟨ds, A', r, hl, ha, h⟩ := h
    obtain ⟨ts, hp, hd⟩ := hb cdv A outer s H E hr
    refine ⟨ts, hp, ?_⟩
    refine hd H A' _ _ H _ (start_ok r ha) ?_
    unfold runD at h
    cases e : g (ds.map (fun d => some (Lo.sh d)) ++ List.replicate (N.length - ds.length) none) with
    | ok fl ρ =>
      rw [e] at h
      cases fl with
      | nx => exact fun σ H' s' => h .non H' s'.same rfl
      | rt d => exact fun v H' s' r' => h v H' s' r'
      | bk => exact h.elim
      | ct => exact h.elim
    | exc x ρ =>
      rw [e] at h
      exact fun σ H' c od s' r' => h c od H' s'.same r'
    | bad => rw [e] at h; exact h.elim
end
/-! ### calls -/
section
variable {X : Cx} {W : WX} {e : Expr} {es : List Expr} {fs : Env → Out (List Dt)} {lk : List Nat} {p pos : Pos} {φ : List Dt → Out Dt}
def eCall (φ : List Dt → Out Dt) (n : Nat) (dd : List Dt) (f : Env → Out (List Dt)) : Env → Out Dt := fun ρ => (f ρ).bind fun ds => if (ds ++ dd).length = n then φ (ds ++ dd) else .bad
theorem ted_call {K : PySem.W.Frag} {ta : TA} {n : Nat} {dd : List Dt} {dvs : List V} (hd : ∀ H A, Reps K H A dd dvs) (ha : TAD K W ta fs lk) : TED K W (tCallSD (spD K n φ) dvs (WE W) ta) (eCall φ n dd fs) lk := by
  intro H0 A0 ρ σ H Q s h
  refine ha _ _ _ _ _ _ s (h.seq fun ds _ h1 vs H1 s1 r1 => ?_)
  split at h1
  · rename_i hl
    refine ⟨ds ++ dd, Av A0 ρ σ lk, r1.append (hd _ _), hl, fun a z => (s.grow s1).avMut z, ?_⟩
    cases eo : φ (ds ++ dd) with
    | ok d => rw [eo] at h1; exact fun v H' s' r => h1 v H' (s1.trans s') r
    | exc x => rw [eo] at h1; exact fun c od H' s' r => h1 c od H' (s1.trans s') r
    | bad => rw [eo] at h1; exact h1
  · exact False.elim h1
theorem pd_call {x : Str} {k j n : Nat} {dd : List Dt} (c : Cl X.prog X.w X.K X.mg X.base x k n dd φ) (tk : Takes X W) (hr : Room j X.A) (hk : k ≤ j) (hg : Gl X x) (ha : PAD X W (e :: es) fs lk) (hdb : (x == ("__debug__" : Str)) = false := by decide)
    (he : starEach (e :: es) X.env = (false, eval e X.env) :: starEach es X.env := by rfl) (hpl : (backTo pos (starEach es X.env)).any (·.1) = false := by rfl) : PED X W (.Call (.Name x p) (e :: es) [] pos) (eCall φ n dd fs) lk := by
  obtain ⟨f, fd, ps, ds, dvs, F, hm, kp, hb, hv, hd⟩ := c.ex
  obtain ⟨ta, pa, da⟩ := ha
  exact ⟨_, pe_callSD F (hr.mono hk) hg hm kp hb hv (fun σ => passAt tk σ) pa hdb he hpl, ted_call hd da⟩
/-! built-in functions, by values -/
def CaV (K : PySem.W.Frag) (r : List V → Hp → VK → Prop) (g : List Dt → Option Dt) : Prop := ∀ (H : Hp) (A : Ad) (ds : List Dt) (d : Dt) (vs : List V) (Q : VK), (∀ c, A c → Mut (H c)) → Reps K H A ds vs → g ds = some d → RE K A H Q d → r vs H Q
def eB (g : List Dt → Option Dt) (f : Env → Out (List Dt)) : Env → Out Dt := fun ρ => (f ρ).bind fun ds => ofO (g ds)
theorem ted_b {K : PySem.W.Frag} {ta : TA} {r : List V → Hp → VK → Prop} {g : List Dt → Option Dt} (hr : CaV K r g) (ha : TAD K W ta fs lk) : TED K W (tCB r ta) (eB g fs) lk := by
  intro H0 A0 ρ σ H Q s h
  refine ha _ _ _ _ _ _ s (h.seq fun ds _ h1 vs H1 s1 r1 => ?_)
  obtain ⟨d, e, q⟩ := ofO_seq h1
  exact hr H1 _ ds d vs Q (fun c z => (s.grow s1).avMut z) r1 e (RE.grow s1 q)
/-- .. a scalar comes: nothing is lent -/
theorem ted_bs {K : PySem.W.Frag} {ta : TA} {r : List V → Hp → VK → Prop} {g : List Dt → Option Dt} (hr : CaV K r g) (hg : ∀ ds d, g ds = some d → d.scal = true) (ha : TAD K W ta fs lk) : TED K W (tCB r ta) (eB g fs) [] := by
  intro H0 A0 ρ σ H Q s h
  refine ha _ _ _ _ _ _ s (h.seq fun ds _ h1 vs H1 s1 r1 => ?_)
  obtain ⟨d, e, q⟩ := ofO_seq h1
  exact hr H1 NoA ds d vs Q (fun c z => False.elim z) (r1.anti fun a z => False.elim z) e fun v H' s' r => q v H' (s1.trans s') (r.scal (hg _ _ e))
/-- a list comes -/
def CaL (K : PySem.W.Frag) (r : List V → Hp → VK → Prop) (g : List Dt → Option (List Dt)) : Prop := ∀ (H : Hp) (A : Ad) (ds : List Dt) (es : List Dt) (vs : List V) (Q : VK), Reps K H A ds vs → g ds = some es → (∀ p us, H p = none → Reps K H A es us → Q (.ref p) (upd H p (.lst us))) → r vs H Q
def lB (g : List Dt → Option (List Dt)) (f : Env → Out (List Dt)) : Env → Out (List Dt) := fun ρ => (f ρ).bind fun ds => ofO (g ds)
theorem tld_b {K : PySem.W.Frag} {ta : TA} {r : List V → Hp → VK → Prop} {g : List Dt → Option (List Dt)} (hr : CaL K r g) (ha : TAD K W ta fs lk) : TLD K W (tCB r ta) (lB g fs) lk := by
  intro H0 A0 ρ σ H Q s h
  refine ha _ _ _ _ _ _ s (h.seq fun ds _ h1 vs H1 s1 r1 => ?_)
  obtain ⟨d, e, q⟩ := ofO_seq h1
  exact hr H1 _ ds d vs Q r1 e fun p us hp r => q p us _ (s1.trans (Same.new hp)) (s1.free hp) upd_same ((Reps.fresh hp _ _ r).same (Same.new hp))
/-! len -/
def gLen : List Dt → Option Dt
  | [.tup ds] => some (.int ds.length)
  | [.lst ds] => some (.int ds.length)
  | [.fls ds] => some (.int ds.length)
  | [.str s] => if s.length ≤ 16777216 then some (.int s.length) else none
  | _ => none
@[simp] theorem gLen_tup (ds : List Dt) : gLen [.tup ds] = some (.int ds.length) := rfl
@[simp] theorem gLen_lst (ds : List Dt) : gLen [.lst ds] = some (.int ds.length) := rfl
@[simp] theorem gLen_fls (ds : List Dt) : gLen [.fls ds] = some (.int ds.length) := rfl
@[simp] theorem gLen_str (s : Str) : gLen [.str s] = if s.length ≤ 16777216 then some (.int s.length) else none := rfl
theorem SqL.ofF {K : PySem.W.Frag} {H : Hp} {A : Ad} {a : Addr} {vs : List V} (h : (¬ A a ∧ ∃ o, H a = some (.frz o (.lst vs))) ∨ KLst K a vs) : SqL K H a vs := by
  rcases h with ⟨_, o, h⟩ | h
  · exact .inl (.inr ⟨o, h⟩)
  · exact .inr h
theorem cav_len {K : PySem.W.Frag} : CaV K (fun xs H Q => ∃ x n, xs = [x] ∧ LenV K x H n ∧ Q (.int n) H) gLen := by
  intro H A ds d vs Q ha r e q
  unfold gLen at e
  split at e
  · obtain ⟨v, rfl, rr⟩ := reps1 r
    cases e
    unfold Rep at rr
    obtain ⟨a, vs, rfl, h1, h2⟩ := rr
    exact ⟨_, vs.length, rfl, .inr ⟨vs, SqT.of' h1, rfl⟩, RE.now q (by rw [h2.length]; rfl)⟩
  · obtain ⟨v, rfl, rr⟩ := reps1 r
    cases e
    unfold Rep at rr
    obtain ⟨a, vs, rfl, _, h1, h2⟩ := rr
    exact ⟨_, vs.length, rfl, .inl ⟨vs, SqL.of h1, rfl⟩, RE.now q (by rw [h2.length]; rfl)⟩
  · obtain ⟨v, rfl, rr⟩ := reps1 r
    cases e
    unfold Rep at rr
    obtain ⟨a, vs, rfl, h1, h2⟩ := rr
    exact ⟨_, vs.length, rfl, .inl ⟨vs, SqL.ofF h1, rfl⟩, RE.now q (by rw [h2.length]; rfl)⟩
  · rename_i s
    obtain ⟨v, rfl, rr⟩ := reps1 r
    obtain ⟨h1, rfl⟩ := some_ite e
    have e1 : v = .str s := rr
    subst e1
    exact ⟨_, s.length, rfl, ⟨by rw [sizeLine_eq]; exact h1, rfl⟩, RE.now q rfl⟩
  · cases e
theorem gLen_scal : ∀ ds d, gLen ds = some d → d.scal = true := fun ds d e => by
  unfold gLen at e
  split at e
  · cases e; rfl
  · cases e; rfl
  · cases e; rfl
  · obtain ⟨_, rfl⟩ := some_ite e; rfl
  · cases e
theorem pd_len (hg : Gl X "len") (hm : X.mg "len" = none) (ha : PAD X W [e] fs lk) (he : starEach [e] X.env = (false, eval e X.env) :: starEach [] X.env := by rfl) : PED X W (.Call (.Name "len" p) [e] [] pos) (eB gLen fs) [] := by
  obtain ⟨ta, pa, da⟩ := ha
  exact ⟨_, pe_callB call_len hg hm boot_len pa (by decide) (by decide) he rfl, ted_bs cav_len gLen_scal da⟩
/-! int, abs -/
def gInt : List Dt → Option Dt
  | [.int i] => some (.int i)
  | [.bl b] => some (.int (if b then 1 else 0))
  | _ => none
@[simp] theorem gInt_int (i : Int) : gInt [.int i] = some (.int i) := rfl
@[simp] theorem gInt_bl (b : Bool) : gInt [.bl b] = some (.int (if b then 1 else 0)) := rfl
theorem cav_int {K : PySem.W.Frag} : CaV K (fun xs H Q => (∃ i, xs = [.int i] ∧ Q (.int i) H) ∨ ∃ k, xs = [.bl k] ∧ Q (.int (if k then 1 else 0)) H) gInt := by
  intro H A ds d vs Q ha r e q
  unfold gInt at e
  split at e
  · obtain ⟨v, rfl, rr⟩ := reps1 r
    cases e
    have e1 : v = .int _ := rr
    subst e1
    exact .inl ⟨_, rfl, RE.now q rfl⟩
  · obtain ⟨v, rfl, rr⟩ := reps1 r
    cases e
    have e1 : v = .bl _ := rr
    subst e1
    exact .inr ⟨_, rfl, RE.now q rfl⟩
  · cases e
theorem gInt_scal : ∀ ds d, gInt ds = some d → d.scal = true := fun ds d e => by
  unfold gInt at e
  split at e <;> first | (cases e; rfl) | cases e
theorem pd_intc (hg : Gl X "int") (hm : X.mg "int" = none) (ha : PAD X W [e] fs lk) (he : starEach [e] X.env = (false, eval e X.env) :: starEach [] X.env := by rfl) : PED X W (.Call (.Name "int" p) [e] [] pos) (eB gInt fs) [] := by
  obtain ⟨ta, pa, da⟩ := ha
  exact ⟨_, pe_callTy call_int1 hg hm PyProof.Rows.boot_int pa (by decide) (by decide) he rfl, ted_bs cav_int gInt_scal da⟩
def gAbs : List Dt → Option Dt
  | [.int i] => some (.int (if i < 0 then -i else i))
  | _ => none
@[simp] theorem gAbs_int (i : Int) : gAbs [.int i] = some (.int (if i < 0 then -i else i)) := rfl
theorem cav_abs {K : PySem.W.Frag} : CaV K (fun xs H Q => ∃ i, xs = [.int i] ∧ Q (.int (if i < 0 then -i else i)) H) gAbs := by
  intro H A ds d vs Q ha r e q
  unfold gAbs at e
  split at e
  · obtain ⟨v, rfl, rr⟩ := reps1 r
    cases e
    have e1 : v = .int _ := rr
    subst e1
    exact ⟨_, rfl, RE.now q rfl⟩
  · cases e
theorem gAbs_scal : ∀ ds d, gAbs ds = some d → d.scal = true := fun ds d e => by
  unfold gAbs at e
  split at e <;> first | (cases e; rfl) | cases e
theorem pd_abs (hg : Gl X "abs") (hm : X.mg "abs" = none) (ha : PAD X W [e] fs lk) (he : starEach [e] X.env = (false, eval e X.env) :: starEach [] X.env := by rfl) : PED X W (.Call (.Name "abs" p) [e] [] pos) (eB gAbs fs) [] := by
  obtain ⟨ta, pa, da⟩ := ha
  exact ⟨_, pe_callB call_abs hg hm PyProof.Rows.boot_abs pa (by decide) (by decide) he rfl, ted_bs cav_abs gAbs_scal da⟩
/-! gcd -/
def gGcd : List Dt → Option Dt
  | [.int i, .int j] => some (.int ((Nat.gcd i.natAbs j.natAbs : Nat) : Int))
  | _ => none
@[simp] theorem gGcd_int (i j : Int) : gGcd [.int i, .int j] = some (.int ((Nat.gcd i.natAbs j.natAbs : Nat) : Int)) := rfl
theorem cav_gcd {K : PySem.W.Frag} : CaV K rGcd gGcd := by
  intro H A ds d vs Q ha r e q
  unfold gGcd at e
  split at e
  · obtain ⟨v, u, rfl, r1, r2⟩ := reps2 r
    cases e
    have e1 : v = .int _ := r1
    have e2 : u = .int _ := r2
    subst e1 e2
    exact ⟨_, _, rfl, RE.now q rfl⟩
  · cases e
theorem gGcd_scal : ∀ ds d, gGcd ds = some d → d.scal = true := fun ds d e => by
  unfold gGcd at e
  split at e <;> first | (cases e; rfl) | cases e
theorem pd_gcd {x : Str} (hg : Gl X x) (hm : X.mg x = some (.builtin "math.gcd")) (ha : PAD X W (e :: es) fs lk) (hdb : (x == ("__debug__" : Str)) = false := by decide)
    (he : starEach (e :: es) X.env = (false, eval e X.env) :: starEach es X.env := by rfl) (hpl : (backTo pos (starEach es X.env)).any (·.1) = false := by rfl) : PED X W (.Call (.Name x p) (e :: es) [] pos) (eB gGcd fs) [] := by
  obtain ⟨ta, pa, da⟩ := ha
  exact ⟨_, pe_callBfun cr_gcd hg hm pa hdb he hpl, ted_bs cav_gcd gGcd_scal da⟩
/-! isinstance of data and a built-in type -/
def Dt.tyN : Dt → Option String
  | .non => some "NoneType" | .bl _ => some "bool" | .int _ => some "int" | .str _ => some "str" | .tup _ => some "tuple" | .lst _ => some "list" | .dic _ _ => some "dict"
  | _ => none
def gIsi : List Dt → Option Dt
  | [d, .ty n] => d.tyN.bind fun t => (kitB t n).map fun b => .bl b
  | _ => none
end
end FD

namespace FD
open PySem L2 PyProof.Rows PySem.Spec
/-! ### items -/
def gIx : Dt → Dt → Option Dt
  | .tup ds, .int i => atI ds i
  | .lst ds, .int i => atI ds i
  | .fls ds, .int i => atI ds i
  | .str s, .int i => if s.length ≤ 16777216 then (atI s.cps.toList i).map fun c => .str ⟨#[c]⟩ else none
  | _, _ => none
@[simp] theorem gIx_tup (ds : List Dt) (i : Int) : gIx (.tup ds) (.int i) = atI ds i := rfl
@[simp] theorem gIx_lst (ds : List Dt) (i : Int) : gIx (.lst ds) (.int i) = atI ds i := rfl
@[simp] theorem gIx_fls (ds : List Dt) (i : Int) : gIx (.fls ds) (.int i) = atI ds i := rfl
@[simp] theorem gIx_str (s : Str) (i : Int) : gIx (.str s) (.int i) = if s.length ≤ 16777216 then (atI s.cps.toList i).map fun c => .str ⟨#[c]⟩ else none := rfl
section
variable {K : PySem.W.Frag} {W : WX} {H0 H H1 : Hp} {A A0 : Ad} {ρ : Env} {σ : L2.St} {lk la lb : List Nat}
theorem Reps.at {ds : List Dt} {vs : List V} {i : Int} {d : Dt} (r : Reps K H A ds vs) (e : atI ds i = some d) : ∃ v, atI vs i = some v ∧ Rep K H A d v := by
  unfold atI at e ⊢
  rw [r.length]
  cases h : ixN ds.length i with
  | none => rw [h] at e; cases e
  | some j =>
    rw [h] at e
    exact r.get e
theorem opv_ix : OpV K (rIx K) gIx := by
  intro H A a b d x y Q _ ra rb e q
  cases a <;> cases b <;> try (cases e; done)
  · rename_i z i
    have e1 : x = .str z := ra
    have e2 : y = .int i := rb
    subst e1 e2
    rw [gIx_str] at e
    split at e
    · rename_i hz
      cases h : atI z.cps.toList i with
      | none => rw [h] at e; cases e
      | some c =>
        rw [h] at e
        cases e
        exact .inr (.inr ⟨z, i, c, rfl, rfl, by rw [sizeLine_eq]; exact hz, h, RE.now q rfl⟩)
    · cases e
  · rename_i ds i
    have e2 : y = .int i := rb
    subst e2
    unfold Rep at ra
    obtain ⟨p, vs, rfl, h1, r⟩ := ra
    obtain ⟨v, e1, r1⟩ := r.at (show atI ds i = some d from e)
    exact .inr (.inl ⟨p, vs, i, v, rfl, rfl, SqT.of' h1, e1, RE.now q r1⟩)
  · rename_i ds i
    have e2 : y = .int i := rb
    subst e2
    unfold Rep at ra
    obtain ⟨p, vs, rfl, _, h1, r⟩ := ra
    obtain ⟨v, e1, r1⟩ := r.at (show atI ds i = some d from e)
    exact .inl ⟨p, vs, i, v, rfl, rfl, SqL.of h1, e1, RE.now q r1⟩
  · rename_i ds i
    have e2 : y = .int i := rb
    subst e2
    unfold Rep at ra
    obtain ⟨p, vs, rfl, h1, r⟩ := ra
    obtain ⟨v, e1, r1⟩ := r.at (show atI ds i = some d from e)
    exact .inl ⟨p, vs, i, v, rfl, rfl, SqL.ofF h1, e1, RE.now q r1⟩
/-- an item of a name's list: the list itself is not lent -/
theorem ted_ixv (i : Nat) {tb : TE} {fb : Env → Out Dt} (hb : TED K W tb fb lb) : TED K W (tOp (rIx K) (tVar i) tb) (e2 (eVar i) fb gIx) [] := by
  intro H0 A0 ρ σ H Q s h
  unfold e2 eVar at h
  split at h
  · rename_i l e
    simp only [Out.bind_ok] at h
    obtain ⟨v, e1, r1⟩ := s.val e
    refine ⟨v, e1, ?_⟩
    refine hb _ _ _ _ _ _ s (h.seq fun b _ h2 v2 H2 s2 r2 => ?_)
    obtain ⟨d, e3, q⟩ := ofO_seq h2
    -- the item avoids all that is own
    have item : ∀ w, Rep K H2 NoA d w → (∃ ds, (l = .ol ds ∧ ∃ k, b = .int k ∧ atI ds k = some d) ∨ (∃ d', l = .sh d') ∨ (∃ ks, l = .od ks ds)) := fun w _ => by
      cases l with
      | sh d' => exact ⟨[], .inr (.inl ⟨d', rfl⟩)⟩
      | ol ds =>
        cases b <;> try (cases e3; done)
        exact ⟨ds, .inl ⟨rfl, _, rfl, e3⟩⟩
      | od ks ds => exact ⟨ds, .inr (.inr ⟨ks, rfl⟩)⟩
    cases l with
    | sh d' =>
      obtain ⟨u, e4, r4⟩ := s.sh i d' e
      rw [e1] at e4
      cases e4
      exact opv_ix (K := K) H2 (Av A0 ρ σ []) d' b d v v2 Q (fun c z => (s.grow s2).avSome z) (r4.same s2) (opv_any e3 r2) e3 (RE.grow s2 q)
    | ol ds =>
      obtain ⟨a, vs, e4, h0, h1, r4⟩ := s.ol i ds e
      rw [e1] at e4
      cases e4
      cases b <;> try (cases e3; done)
      rename_i k _
      have e5 : v2 = .int k := r2
      subst e5
      obtain ⟨w, e6, r6⟩ := (r4.same s2).at (show atI ds k = some d from e3)
      exact .inl ⟨a, vs, k, w, rfl, rfl, SqL.of (s2 _ _ h1), e6, q _ _ s2 r6⟩
    | od ks ds => cases b <;> cases e3
  · exact False.elim h
where
  opv_any {K : PySem.W.Frag} {H : Hp} {A A' : Ad} {a b d : Dt} {v : V} (e : gIx a b = some d) (r : Rep K H A b v) : Rep K H A' b v := by
    cases b with
    | int i => exact r
    | _ => cases a <;> cases e
/-! slices -/
def tyPart (K : PySem.W.Frag) (W : WX) (to : TO) (f : Env → Out (Option Int)) : Prop :=
  ∀ (H0 : Hp) (A0 : Ad) (ρ : Env) (σ : L2.St) (H : Hp) (Q : Option Int → Hp → Prop), StOk K H0 A0 H ρ σ → PostX K W H σ (f ρ) (fun o => ∀ H', Same H H' → Q o H') → to σ H Q
def POD (X : Cx) (W : WX) (e : Option Expr) (f : Env → Out (Option Int)) : Prop := ∃ to, PO X e to ∧ tyPart X.K W to f
def oNone : Env → Out (Option Int) := fun _ => .ok none
def oInt (f : Env → Out Dt) : Env → Out (Option Int) := fun ρ => (f ρ).bind fun d => match d with
  | .int i => .ok (some i)
  | _ => .bad
theorem ty_none : tyPart K W tNoPart oNone := fun H0 A0 ρ σ H Q s h => h H (Same.refl H)
theorem ty_some {te : TE} {f : Env → Out Dt} (ha : TED K W te f la) : tyPart K W (tPart te) (oInt f) := by
  intro H0 A0 ρ σ H Q s h
  refine ha _ _ _ _ _ _ s (h.seq fun d _ h1 v H1 s1 r1 => ?_)
  cases d <;> try (exact False.elim h1)
  exact ⟨_, r1, h1 H1 s1⟩
def cutD (ds : List Dt) (lo hi : Option Int) : List Dt := (ds.drop (HT.sIx ds.length 0 lo)).take (HT.sIx ds.length ds.length hi - HT.sIx ds.length 0 lo)
theorem Reps.cut {ds : List Dt} {vs : List V} {lo hi : Option Int} (r : Reps K H A ds vs) : Reps K H A (cutD ds lo hi) (cutV vs lo hi) := by
  unfold cutD cutV
  rw [r.length]
  exact Reps.take _ (Reps.drop _ r)
def gCutL (a : Dt) (lo hi : Option Int) : Option (List Dt) := match a with
  | .lst ds => some (cutD ds lo hi)
  | .fls ds => some (cutD ds lo hi)
  | _ => none
/-- xs[lo:hi], a list -/
def lCut (f : Env → Out Dt) (fl fh : Env → Out (Option Int)) : Env → Out (List Dt) := fun ρ => (f ρ).bind fun a => (fl ρ).bind fun lo => (fh ρ).bind fun hi => ofO (gCutL a lo hi)
theorem tld_cut {te : TE} {tl th : TO} {f : Env → Out Dt} {fl fh : Env → Out (Option Int)} (ha : TED K W te f la) (hl : tyPart K W tl fl) (hh : tyPart K W th fh) : TLD K W (tSl (rSlL K) te tl th) (lCut f fl fh) la := by
  intro H0 A0 ρ σ H Q s h
  refine ha _ _ _ _ _ _ s (h.seq fun a _ h1 v H1 s1 r1 => ?_)
  refine hl _ _ _ _ _ _ (s.grow s1) ((h1.grow s1).seq fun lo _ h2 H2 s2 => ?_)
  refine hh _ _ _ _ _ _ (s.grow (s1.trans s2)) ((h2.grow s2).seq fun hi _ h3 H3 s3 => ?_)
  obtain ⟨ds, e, q⟩ := ofO_seq h3
  have sA := (s1.trans s2).trans s3
  have r3 := r1.same (s2.trans s3)
  cases a <;> try (cases e; done)
  · cases e
    unfold Rep at r3
    obtain ⟨p, vs, rfl, n, h1, r⟩ := r3
    exact ⟨p, vs, rfl, SqL.of h1, fun c hc => q c _ _ (sA.trans (Same.new hc)) (sA.free hc) upd_same ((Reps.fresh hc _ _ r.cut).same (Same.new hc))⟩
  · cases e
    unfold Rep at r3
    obtain ⟨p, vs, rfl, h1, r⟩ := r3
    exact ⟨p, vs, rfl, SqL.ofF h1, fun c hc => q c _ _ (sA.trans (Same.new hc)) (sA.free hc) upd_same ((Reps.fresh hc _ _ r.cut).same (Same.new hc))⟩
end
section
variable {X : Cx} {W : WX} {e a b c iter tg : Expr} {f fa fb : Env → Out Dt} {lk la lb : List Nat} {pos p p2 : Pos} {lo hi : Option Expr} {fl fh : Env → Out (Option Int)}
theorem pd_ix (ha : PED X W a fa la) (hb : PED X W b fb lb) (hs : PlainIx b := by exact fun _ _ => rfl) : PED X W (.Subscript a b pos) (e2 fa fb gIx) (la ++ lb) := by
  obtain ⟨ta, pa, da⟩ := ha
  obtain ⟨tb, pb, db⟩ := hb
  exact ⟨_, pe_ix ix_seq pa pb hs, ted_2 opv_ix da db⟩
theorem pd_ixv (i : Nat) {x : Str} (hb : PED X W b fb lb) (hN : X.N[i]? = some x := by rfl) (hv : Vis X.env.scope x := by first | exact Or.inl rfl | exact Or.inr (Or.inl rfl) | exact Or.inr (Or.inr rfl)) (hd : (x == ("__debug__" : Str)) = false := by decide)
    (hcd : (x == ("__classdict__" : Str)) = false := by decide) (hs : PlainIx b := by exact fun _ _ => rfl) : PED X W (.Subscript (.Name x p) b pos) (e2 (eVar i) fb gIx) [] := by
  obtain ⟨tb, pb, db⟩ := hb
  exact ⟨_, pe_ix ix_seq (pe_var hN hv hd hcd) pb hs, ted_ixv i db⟩
theorem po_noneD : POD X W none oNone := ⟨_, po_none, ty_none⟩
theorem po_someD (h : PED X W e f la) : POD X W (some e) (oInt f) := by
  obtain ⟨t, p, d⟩ := h
  exact ⟨_, po_some p, ty_some d⟩
theorem pl_cut (he : PED X W e f la) (hl : POD X W lo fl) (hh : POD X W hi fh) : PLD X W (.Subscript e (.Slice lo hi none p2) pos) (lCut f fl fh) la := by
  obtain ⟨t, p, d⟩ := he
  obtain ⟨tl, pl, dl⟩ := hl
  obtain ⟨th, ph, dh⟩ := hh
  exact ⟨_, pe_slice sl_list p pl ph, tld_cut d dl dh⟩
end
/-! ### isinstance -/
section
variable {K : PySem.W.Frag}
theorem tyx_of {H : Hp} {A : Ad} {d : Dt} {v : V} {t : String} (r : Rep K H A d v) (e : d.tyN = some t) : TyX K H v (.type t) := by
  cases d with
  | non => cases e; have e1 : v = .non := r; subst e1; exact .base .non
  | bl b => cases e; have e1 : v = .bl b := r; subst e1; exact .base (.bl b)
  | int b => cases e; have e1 : v = .int b := r; subst e1; exact .base (.int b)
  | str b => cases e; have e1 : v = .str b := r; subst e1; exact .base (.str b)
  | ty _ => cases e
  | cls _ => cases e
  | fls _ => cases e
  | obj _ _ _ => cases e
  | exn _ _ _ _ _ => cases e
  | tup ds =>
    cases e
    unfold Rep at r
    obtain ⟨a, vs, rfl, h | ⟨o, its, n, h1, h2, _⟩, _⟩ := r
    · exact .base (.tup h.2)
    · exact .kTuple h1 h2
  | lst ds =>
    cases e
    unfold Rep at r
    obtain ⟨a, vs, rfl, _, h, _⟩ := r
    exact .base (.lst h)
  | dic ks ds =>
    cases e
    unfold Rep at r
    obtain ⟨a, kvs, rfl, _, h, _⟩ := r
    exact .base (.dK h)
theorem cav_isi : CaV K (rIsi K) gIsi := by
  intro H A ds d vs Q ha r e q
  unfold gIsi at e
  split at e
  · rename_i x n
    obtain ⟨v, u, rfl, r1, r2⟩ := reps2 r
    have e2 : u = .ty n := r2
    subst e2
    cases h1 : x.tyN with
    | none => rw [h1] at e; cases e
    | some t =>
      rw [h1] at e
      cases h2 : kitB t n with
      | none =>
        have e' : (kitB t n).map (fun b => Dt.bl b) = some d := e
        rw [h2] at e'
        cases e'
      | some b =>
        have e' : (kitB t n).map (fun b => Dt.bl b) = some d := e
        rw [h2] at e'
        cases e'
        exact ⟨v, .ty n, .type t, .type n, b, rfl, .ty n, tyx_of r1 h1, kit_ty h2, RE.now q rfl⟩
  · cases e
theorem gIsi_scal : ∀ ds d, gIsi ds = some d → d.scal = true := fun ds d e => by
  unfold gIsi at e
  split at e
  · rename_i x n
    cases h1 : x.tyN with
    | none => rw [h1] at e; cases e
    | some t =>
      rw [h1] at e
      have e' : (kitB t n).map (fun b => Dt.bl b) = some d := e
      cases h2 : kitB t n with
      | none => rw [h2] at e'; cases e'
      | some b => rw [h2] at e'; cases e'; rfl
  · cases e
@[simp] theorem isi_int_int (i : Int) : gIsi [.int i, .ty "int"] = some (.bl true) := by
  have h : kitB "int" "int" = some true := by decide +kernel
  show (kitB "int" "int").map (fun b => Dt.bl b) = _
  rw [h]; rfl
@[simp] theorem isi_int_bool (i : Int) : gIsi [.int i, .ty "bool"] = some (.bl false) := by
  have h : kitB "int" "bool" = some false := by decide +kernel
  show (kitB "int" "bool").map (fun b => Dt.bl b) = _
  rw [h]; rfl
@[simp] theorem isi_bool_int (i : Bool) : gIsi [.bl i, .ty "int"] = some (.bl true) := by
  have h : kitB "bool" "int" = some true := by decide +kernel
  show (kitB "bool" "int").map (fun b => Dt.bl b) = _
  rw [h]; rfl
@[simp] theorem isi_bool_bool (i : Bool) : gIsi [.bl i, .ty "bool"] = some (.bl true) := by
  have h : kitB "bool" "bool" = some true := by decide +kernel
  show (kitB "bool" "bool").map (fun b => Dt.bl b) = _
  rw [h]; rfl
@[simp] theorem isi_tup (i : List Dt) : gIsi [.tup i, .ty "tuple"] = some (.bl true) := by
  have h : kitB "tuple" "tuple" = some true := by decide +kernel
  show (kitB "tuple" "tuple").map (fun b => Dt.bl b) = _
  rw [h]; rfl
@[simp] theorem isi_str (i : Str) : gIsi [.str i, .ty "str"] = some (.bl true) := by
  have h : kitB "str" "str" = some true := by decide +kernel
  show (kitB "str" "str").map (fun b => Dt.bl b) = _
  rw [h]; rfl
@[simp] theorem isi_lst (i : List Dt) : gIsi [.lst i, .ty "list"] = some (.bl true) := by
  have h : kitB "list" "list" = some true := by decide +kernel
  show (kitB "list" "list").map (fun b => Dt.bl b) = _
  rw [h]; rfl
@[simp] theorem isi_dict (k : List Key) (i : List Dt) : gIsi [.dic k i, .ty "dict"] = some (.bl true) := by
  have h : kitB "dict" "dict" = some true := by decide +kernel
  show (kitB "dict" "dict").map (fun b => Dt.bl b) = _
  rw [h]; rfl
end
section
variable {X : Cx} {W : WX} {e a b : Expr} {fs : Env → Out (List Dt)} {lk : List Nat} {pos p : Pos}
theorem pd_isi (hg : Gl X "isinstance") (hm : X.mg "isinstance" = none) (ha : PAD X W [a, b] fs lk) (he : starEach [a, b] X.env = (false, eval a X.env) :: starEach [b] X.env := by rfl) (hpl : (backTo pos (starEach [b] X.env)).any (·.1) = false := by rfl) :
    PED X W (.Call (.Name "isinstance" p) [a, b] [] pos) (eB gIsi fs) [] := by
  obtain ⟨ta, pa, da⟩ := ha
  exact ⟨_, pe_callB call_isi hg hm PyProof.Rows.boot_isinstance pa (by decide) (by decide) he hpl, ted_bs cav_isi gIsi_scal da⟩
end
/-! ### list comprehensions -/
def W0 : WX := fun _ _ _ _ => False
def wipeE (ρ : Env) : List Nat → Env
  | [] => ρ
  | v :: vs => (wipeE ρ vs).set v none
def noEx {α : Type} : Out α → Out α
  | .ok a => .ok a
  | _ => .bad
@[simp] theorem noEx_ok {α : Type} (a : α) : noEx (.ok a) = .ok a := rfl
@[simp] theorem noEx_exc {α : Type} (x : Exn) : noEx (.exc x : Out α) = .bad := rfl
@[simp] theorem noEx_bad {α : Type} : noEx (.bad : Out α) = .bad := rfl
def lcD (u : Dt → Env → Option Env) (t : Env → Out Bool) (f : Env → Out Dt) (ρ : Env) : List Dt → Out (List Dt)
  | [] => .ok []
  | d :: ds => (ofO (u d ρ)).bind fun ρ1 => (noEx (t ρ1)).bind fun b => if b = true then (noEx (f ρ1)).bind fun y => (lcD u t f ρ ds).bind fun r => .ok (y :: r) else lcD u t f ρ ds
def lLc (u : Dt → Env → Option Env) (vs : List Nat) (t : Env → Out Bool) (f : Env → Out Dt) (src : Env → Out (List Dt)) (lk : List Nat) : Env → Out (List Dt) := fun ρ => (src ρ).bind fun ds => if ds.length ≤ 16777216 then lcD u t f (wipeE (frz lk ρ) vs) ds else .bad
section
variable {K : PySem.W.Frag} {W : WX} {H0 H H1 H2 : Hp} {A A0 : Ad} {ρ : Env} {σ : L2.St} {lk la lb : List Nat}
theorem wipe_get {ρ : Env} {i : Nat} {x : Lo} : ∀ {vs : List Nat}, (wipeE ρ vs)[i]? = some (some x) → ρ[i]? = some (some x) ∧ i ∉ vs
  | [], h => ⟨h, by simp⟩
  | v :: vs, h => by
    unfold wipeE at h
    by_cases hi : v = i
    · subst hi
      by_cases hv : v < (wipeE ρ vs).length
      · rw [List.getElem?_set_self hv] at h; cases h
      · rw [List.getElem?_eq_none (by simpa using hv)] at h; cases h
    · rw [List.getElem?_set_ne hi] at h
      obtain ⟨h1, h2⟩ := wipe_get h
      exact ⟨h1, by simp only [List.mem_cons, not_or]; exact ⟨fun e => hi e.symm, h2⟩⟩
theorem wipeE_length (ρ : Env) : ∀ vs : List Nat, (wipeE ρ vs).length = ρ.length
  | [] => rfl
  | v :: vs => by unfold wipeE; rw [List.length_set, wipeE_length ρ vs]
theorem wipeE_ne {ρ : Env} {i : Nat} : ∀ {vs : List Nat}, i ∉ vs → (wipeE ρ vs)[i]? = ρ[i]?
  | [], _ => rfl
  | v :: vs, h => by
    unfold wipeE
    rw [List.getElem?_set_ne fun e => h (by rw [e]; exact List.mem_cons_self)]
    exact wipeE_ne fun z => h (List.mem_cons_of_mem _ z)
theorem wipe_ne {σ : L2.St} {i : Nat} : ∀ {vs : List Nat}, i ∉ vs → (wipe σ vs)[i]? = σ[i]?
  | [], _ => rfl
  | v :: vs, h => by
    unfold wipe
    rw [List.getElem?_set_ne fun e => h (by rw [e]; exact List.mem_cons_self)]
    exact wipe_ne fun z => h (List.mem_cons_of_mem _ z)
theorem ownW {vs : List Nat} {i : Nat} {a : Addr} (h : OwnAt (wipeE ρ vs) (wipe σ vs) i a) : OwnAt ρ σ i a ∧ i ∉ vs := by
  obtain ⟨l, e, ho, es⟩ := h
  obtain ⟨e1, n⟩ := wipe_get e
  exact ⟨⟨l, e1, ho, (wipe_some es).1⟩, n⟩
theorem StOk.wiped (s : StOk K H0 A0 H ρ σ) (vs : List Nat) : StOk K H0 A0 H (wipeE ρ vs) (wipe σ vs) := by
  have av : ∀ a, Av A0 (wipeE ρ vs) (wipe σ vs) [] a → Av A0 ρ σ [] a := by
    rintro a (z | ⟨i, n, z⟩)
    · exact .inl z
    · exact .inr ⟨i, n, (ownW z).1⟩
  refine ⟨s.same, s.a0, by rw [wipe_length, wipeE_length]; exact s.len, fun i d e => ?_, fun i ds e => ?_, fun i ks ds e => ?_, fun i j a h1 h2 => s.ap i j a (ownW h1).1 (ownW h2).1⟩
  · obtain ⟨e1, n⟩ := wipe_get e
    obtain ⟨v, e2, r⟩ := s.sh i d e1
    exact ⟨v, by rw [wipe_ne n]; exact e2, r.anti av⟩
  · obtain ⟨e1, n⟩ := wipe_get e
    obtain ⟨a, us, e2, h0, h1, r⟩ := s.ol i ds e1
    exact ⟨a, us, by rw [wipe_ne n]; exact e2, h0, h1, r.anti av⟩
  · obtain ⟨e1, n⟩ := wipe_get e
    obtain ⟨a, us, e2, h0, h1, h2, r⟩ := s.od i ks ds e1
    exact ⟨a, us, by rw [wipe_ne n]; exact e2, h0, h1, h2, r.anti av⟩
/-- a list at D is being made -/
theorem StOk.withD (s : StOk K H0 A0 H ρ σ) {D : Addr} {acc : List V} (hD : H D = none) (hs : Same H H2) (h2 : H2 D = some (.lst acc)) : StOk K (Bs H2 ρ σ []) (fun a => A0 a ∨ a = D) H2 ρ σ := by
  have nD : ¬ Ow ρ σ [] D := fun ⟨i, _, h⟩ => by
    obtain ⟨⟨o, e⟩, _⟩ := s.ownSome h
    rw [hD] at e
    cases e
  have av : ∀ a, Av (fun a => A0 a ∨ a = D) ρ σ [] a → Av A0 ρ σ [] a ∨ a = D := by
    rintro a ((z | z) | z)
    · exact .inl (.inl z)
    · exact .inr z
    · exact .inl (.inr z)
  have nA : ∀ a, A0 a → ¬ Ow ρ σ [] a := fun a z q => by
    have q1 := s.a0 a z
    rw [s.owNew q] at q1
    exact q1
  refine ⟨Bs_same, fun a z => ?_, s.len, fun i d e => ?_, fun i ds e => ?_, fun i ks ds e => ?_, s.ap⟩
  · rcases z with z | z
    · rw [Bs_ne (nA a z)]
      exact (s.grow hs).avMut (lk := []) (.inl z)
    · subst z
      rw [Bs_ne nD, h2]
      exact True.intro
  · obtain ⟨v, e1, r⟩ := s.sh i d e
    exact ⟨v, e1, ((Rep.fresh hD _ _ r).same hs).anti av⟩
  · obtain ⟨a, vs, e1, h0, h1, r⟩ := s.ol i ds e
    exact ⟨a, vs, e1, Bs_ow ⟨i, (fun z => nomatch z), _, e, rfl, e1⟩, hs _ _ h1, ((Reps.fresh hD _ _ r).same hs).anti av⟩
  · obtain ⟨a, vs, e1, h0, h1, h3, r⟩ := s.od i ks ds e
    exact ⟨a, vs, e1, Bs_ow ⟨i, (fun z => nomatch z), _, e, rfl, e1⟩, hs _ _ h1, h3, ((Reps.fresh hD _ _ r).same hs).anti av⟩
theorem noEx_post {α : Type} {o : Out α} {R : α → Prop} (h : PostX K W H σ (noEx o) R) {σ' : L2.St} : PostX K W0 H2 σ' o R := by
  cases o with
  | ok a => exact h
  | exc x => exact False.elim h
  | bad => exact False.elim h
theorem tld_lc {wi : TI} {g : TG} {tt : TT} {te : TE} {u : Dt → Env → Option Env} {S vs lt le : List Nat} {t : Env → Out Bool} {f : Env → Out Dt} {src : Env → Out (List Dt)} (hi : TID K W wi src lk) (hg : TGD K g u S) (hS : ∀ i ∈ S, i ∈ vs)
    (ht : TTD K W0 tt t lt) (he : TED K W0 te f le) : TLD K W (tLc wi g tt te vs) (lLc u vs t f src lk) (lk ++ (le ++ vs)) := by
  intro H0 A0 ρ σ H Q s h
  refine hi _ _ _ _ _ _ s (h.seq fun ds _ h1 J H1 s1 w => ?_)
  intro D hD
  split at h1
  case isFalse => exact False.elim h1
  rename_i hz
  obtain ⟨sB, hB⟩ := s.rebase s1 lk
  have sW := sB.wiped vs
  -- what is wanted, without the wish
  cases eo : lcD u t f (wipeE (frz lk ρ) vs) ds with
  | exc x =>
    exfalso
    have key : ∀ es, lcD u t f (wipeE (frz lk ρ) vs) es ≠ .exc x := by
      intro es
      induction es with
      | nil => intro z; cases z
      | cons d es ih =>
        intro z
        unfold lcD at z
        cases e1 : u d (wipeE (frz lk ρ) vs) with
        | none => rw [e1] at z; cases z
        | some ρ1 =>
          rw [e1] at z
          simp only [ofO_some, Out.bind_ok] at z
          cases e2 : t ρ1 with
          | ok b =>
            rw [e2] at z
            simp only [noEx_ok, Out.bind_ok] at z
            split at z
            · cases e3 : f ρ1 with
              | ok y =>
                rw [e3] at z
                simp only [noEx_ok, Out.bind_ok] at z
                cases e4 : lcD u t f (wipeE (frz lk ρ) vs) es with
                | ok r => rw [e4] at z; cases z
                | exc x' => rw [e4] at z; cases z; exact ih e4
                | bad => rw [e4] at z; cases z
              | exc x' => rw [e3] at z; cases z
              | bad => rw [e3] at z; cases z
            · exact ih z
          | exc x' => rw [e2] at z; cases z
          | bad => rw [e2] at z; cases z
    exact key ds eo
  | bad => rw [eo] at h1; exact False.elim h1
  | ok res =>
    rw [eo] at h1
    have avs : ∀ a, Av A0 ρ σ (lk ++ (le ++ vs)) a → Av A0 (frz lk ρ) σ (le ++ vs) a := by
      rintro a (z | ⟨i, n, l, e, ho, es⟩)
      · exact .inl z
      · refine .inr ⟨i, fun q => n (List.mem_append_right _ q), l, ?_, ho, es⟩
        exact frz_ne (fun q => n (List.mem_append_left _ q)) e
    -- the invariant: the items so far, and what the rest will give
    refine ⟨fun i m H' => m + i = ds.length ∧ Same H1 H' ∧ ∃ (done todo : List Dt) (acc : List V), H' D = some (.lst acc) ∧ acc.length ≤ i ∧ lcD u t f (wipeE (frz lk ρ) vs) (ds.drop i) = .ok todo ∧ done ++ todo = res ∧
      Reps K H' (fun a => Av A0 ρ σ (lk ++ (le ++ vs)) a ∨ a = D) done acc, ⟨ds.length, by omega, Same.new hD, [], res, [], upd_same, Nat.le_refl 0, eo, rfl, Reps.nil⟩, ?_⟩
    rintro i m H2 ⟨hm, s2, done, todo, acc, hacc, hlen, e, hres, racc⟩
    have sBW : Same (Bs H1 ρ σ lk) H2 := Bs_same.trans s2
    by_cases hlt : i < ds.length
    · have hd : ds.drop i = ds[i] :: ds.drop (i + 1) := List.drop_eq_getElem_cons hlt
      rw [hd] at e
      unfold lcD at e
      refine .inr ⟨w.go i H2 sBW hlt, fun H' => Same H1 H' ∧ ∃ (done todo : List Dt) (acc : List V), H' D = some (.lst acc) ∧ acc.length ≤ i + 1 ∧ lcD u t f (wipeE (frz lk ρ) vs) (ds.drop (i + 1)) = .ok todo ∧ done ++ todo = res ∧
        Reps K H' (fun a => Av A0 ρ σ (lk ++ (le ++ vs)) a ∨ a = D) done acc, fun H' q => ⟨m - 1, by omega, by omega, q⟩, fun x H3 y => ?_⟩
      obtain ⟨s3, r3⟩ := w.yld i H2 x H3 ds[i] sBW y (List.getElem?_eq_getElem hlt)
      have hacc3 := s3 _ _ hacc
      have sD := sW.withD hD (s2.trans s3) hacc3
      cases eu : u ds[i] (wipeE (frz lk ρ) vs) with
      | none => rw [eu] at e; cases e
      | some ρ1 =>
        rw [eu] at e
        simp only [ofO_some, Out.bind_ok] at e
        refine hg _ _ _ _ _ _ _ _ _ sD (r3 _ fun a z => ?_) eu fun σ4 s4 m4 o4 => ⟨?_, ?_⟩
        · rcases z with (z | z) | ⟨j, n, z⟩
          · refine ⟨.inl z, ?_⟩
            have q := sD.avMut (lk := []) (a := a) (.inl (.inl z))
            intro z2
            have z3 : H3 a = none := by
              cases q3 : H3 a with
              | none => rfl
              | some o =>
                exfalso
                have q4 := (s.grow s1).avMut (lk := []) (a := a) (.inl z)
                cases q5 : H1 a with
                | none => rw [q5] at q4; exact q4
                | some o' =>
                  have q6 := s2 a o' q5
                  rw [z2] at q6
                  cases q6
            rw [z3] at q
            exact q
          · subst z
            refine ⟨.inr ?_, by rw [hacc]; intro z; cases z⟩
            have : Bs H1 ρ σ lk a = none := by
              unfold Bs
              split
              · rfl
              · exact hD
            exact this
          · obtain ⟨z1, _⟩ := ownW z
            refine ⟨.inr ?_, ?_⟩
            · exact (sB.ownSome z1).2
            · obtain ⟨⟨o, q⟩, _⟩ := sB.ownSome z1
              rw [s2 _ _ q]
              intro z
              cases z
        · -- the slots of the block alone were stored
          have wl : ∀ vs' : List Nat, (∀ i ∈ S, i ∈ vs') → wipe σ4 vs' = wipe (wipe σ vs) vs' := fun vs' hv => by
            apply List.ext_getElem?
            intro j
            by_cases hj : j ∈ vs'
            · have n1 : ∀ τ : L2.St, j < τ.length → (wipe τ vs')[j]? = some none := fun τ hjl => wipe_mem hj hjl
              by_cases hl : j < σ4.length
              · rw [n1 _ hl, n1 _ (by rw [← o4.1]; exact hl)]
              · rw [List.getElem?_eq_none (by rw [wipe_length]; omega), List.getElem?_eq_none (by rw [wipe_length, ← o4.1]; omega)]
            · rw [wipe_ne hj, wipe_ne hj]
              exact (o4.2 j fun z => hj (hv j z)).1
          rw [wl vs hS, wipe_idem]
        · refine ht _ _ _ _ _ _ s4 ?_
          cases et : t ρ1 with
          | exc x' => rw [et] at e; cases e
          | bad => rw [et] at e; cases e
          | ok b =>
            rw [et] at e
            simp only [noEx_ok, Out.bind_ok] at e
            intro H4 s5
            cases b with
            | false =>
              simp only [Bool.false_eq_true, if_false] at e ⊢
              exact ⟨(s2.trans s3).trans s5, done, todo, acc, s5 _ _ hacc3, by omega, e, hres, (racc.same s3).same s5⟩
            | true =>
              simp only [if_true] at e ⊢
              refine he _ _ _ _ _ _ (s4.grow s5) ?_
              cases ef : f ρ1 with
              | exc x' => rw [ef] at e; cases e
              | bad => rw [ef] at e; cases e
              | ok y =>
                rw [ef] at e
                simp only [noEx_ok, Out.bind_ok] at e
                cases er : lcD u t f (wipeE (frz lk ρ) vs) (ds.drop (i + 1)) with
                | exc x' => rw [er] at e; cases e
                | bad => rw [er] at e; cases e
                | ok r =>
                  rw [er] at e
                  have ey : y :: r = todo := by
                    have e' : (Out.ok (y :: r) : Out (List Dt)) = .ok todo := e
                    injection e'
                  intro v5 H5 s6 r5
                  have hD5 := s6 _ _ (s5 _ _ hacc3)
                  refine ⟨acc, hD5, by rw [sizeLine_eq]; omega, fun a o q => ?_, done ++ [y], r, acc ++ [v5], upd_same, by rw [List.length_append, List.length_singleton]; omega, rfl, ?_, ?_⟩
                  · rw [upd_ne (ne_of_none q hD)]
                    exact s6 _ _ (s5 _ _ (s3 _ _ (s2 _ _ q)))
                  · rw [List.append_assoc]
                    show done ++ (y :: r) = res
                    rw [ey]
                    exact hres
                  · have keep : ∀ a o, ¬ (Av A0 ρ σ (lk ++ (le ++ vs)) a ∨ a = D) → H5 a = some o → upd H5 D (.lst (acc ++ [v5])) a = some o := fun a o n q => by
                      rw [upd_ne fun z => n (.inr z)]
                      exact q
                    refine Reps.mono keep (fun a z => z) _ _ (Reps.append (((racc.same s3).same s5).same s6) (Reps.cons (r5.anti fun a z => ?_) Reps.nil))
                    rcases z with z | z
                    · rcases avs a z with z | ⟨j, n, l, e1, ho, es⟩
                      · exact .inl (.inl z)
                      · have nv : j ∉ vs := fun q => n (List.mem_append_right _ q)
                        have nS : j ∉ S := fun q => nv (hS j q)
                        refine .inr ⟨j, fun q => n (List.mem_append_left _ q), l, ?_, ho, ?_⟩
                        · rw [(o4.2 j nS).2, wipeE_ne nv]
                          exact e1
                        · rw [(o4.2 j nS).1, wipe_ne nv]
                          exact es
                    · exact .inl (.inr z)
    · have e1 : i = ds.length := by omega
      subst e1
      rw [List.drop_length] at e
      have et : todo = [] := by
        have e' : (Out.ok [] : Out (List Dt)) = .ok todo := e
        injection e' with e'
        exact e'.symm
      subst et
      rw [List.append_nil] at hres
      subst hres
      refine .inl ⟨w.stop H2 sBW, ?_⟩
      exact h1 D acc H2 (s1.trans s2) (s1.free hD) hacc racc
where
  frz_ne {lk : List Nat} {ρ : Env} {i : Nat} {l : Lo} (hn : i ∉ lk) (e : ρ[i]? = some (some l)) : (frz lk ρ)[i]? = some (some l) := by
    induction lk generalizing ρ with
    | nil => exact e
    | cons j lk ih =>
      rw [frz_cons]
      refine ih (fun q => hn (List.mem_cons_of_mem _ q)) ?_
      unfold FD.frz1
      split
      · rw [List.getElem?_set_ne fun z => hn (by rw [z]; exact List.mem_cons_self)]
        exact e
      · exact e
  wipe_mem {τ : L2.St} {j : Nat} {vs : List Nat} (h : j ∈ vs) (hl : j < τ.length) : (wipe τ vs)[j]? = some none := by
    induction vs with
    | nil => cases h
    | cons v vs ih =>
      unfold wipe
      by_cases e : v = j
      · subst e
        rw [List.getElem?_set_self (by rw [wipe_length]; exact hl)]
      · rw [List.getElem?_set_ne e]
        rcases List.mem_cons.mp h with z | z
        · exact absurd z.symm e
        · exact ih z
  wipe_idem {τ : L2.St} {vs : List Nat} : wipe (wipe τ vs) vs = wipe τ vs := by
    apply List.ext_getElem?
    intro j
    by_cases hj : j ∈ vs
    · by_cases hl : j < τ.length
      · rw [wipe_mem hj (by rw [wipe_length]; exact hl), wipe_mem hj hl]
      · rw [List.getElem?_eq_none (by rw [wipe_length, wipe_length]; omega), List.getElem?_eq_none (by rw [wipe_length]; omega)]
    · rw [wipe_ne hj, wipe_ne hj]
end
end FD

/-! own exceptions over ValueError whose __init__ stores and says super().__init__(text) -/
namespace PySem.FX
open PySem PySem.W PySem.Calls PyProof.Rows PySem.Spec
abbrev supSt (p0 p1 p2 p3 p4 : Pos) (msg : Expr) : Stmt := .Expr (.Call (.Attribute (.Call (.Name "super" p0) [] [] p1) "__init__" p2) [msg] [] p3) p4
abbrev stoSt (f x : Str) (q1 q2 q3 q4 : Pos) : Stmt := .Assign [.Attribute (.Name "self" q1) f q2] (.Name x q3) q4
abbrev exO (C t : Addr) (dv : Option Addr) : Obj := { cls := .ref C, dict := dv, data := .fields #[.ref t, .none, .none, .none, .bool false, .none] }
structure XTxt (prog : Program) (K : Frag) (mg : Str → Option Value) (C fI cc cda : Addr) (qual : Str) (params : Arguments) (body : List Stmt) (scope : Scope) : Prop where
  cls : ∃ nm q N bs bm sn sub ab col dd k0 k1 k2 k3 k5, K.lookup C = some (excClassObj nm q C N bs bm true sn sub ab col dd k0 k1 k2 k3 k5 "ValueError.__new__") ∧ HandSPX.refsVE bm = true
  sa : findIn K (.ref C) "__setattr__" = some (some (.builtin "object.__setattr__"))
  iC : findIn K (.ref C) "__init__" = some (some (.ref fI))
  tI : typeIn K (.ref fI) = some (.type "function")
  kC : keepIn K (.ref C) = true
  exC : subIn K (.ref C) (.type "BaseException") = some true
  exVE : subIn K (.ref C) (.type "ValueError") = some true
  tyC : typeIn K (.ref C) = some (.type "type")
  sub : mroIn K C (.ref C) = some true
  supI : ks_superIn K C C "__init__" = some (some (.builtin "ValueError.__init__"))
  any : nsIn K cStatics "thirdparty.any" = some none
  mgS : mg "super" = none
  cell : ∃ cl cld csl, K.lookup cc = some ⟨cl, cld, .cell (some (.ref C)), csl⟩
  code : ∃ ccl cdd vs ccs f tf, K.lookup cda = some ⟨ccl, cdd, .fields vs, ccs⟩ ∧ vs[2]? = some (.str f tf) ∧ ((prog.main.file : Str) == f) = true
  top : (prog.main.scope.names.lookup ("super" : Str)).isSome = false
  fn : ∃ (oc : Value) (od : Option Addr) (kV doc pm : Value) (an : Option Addr) (ct : Value) (osl : Array (Option Value)), K.lookup fI = some ⟨oc, od, .func (ksFn "__init__" qual params body scope .none kV doc pm an (.ref cda) ct cc), osl⟩ ∧ codeIn K (.ref cda) qual = true
section
variable {prog : Program} {w : World} {A : Around} {E : Value → Shared → Prop} {s : Shared} {K : Frag} {mg : Str → Option Value} {C fI cc cda : Addr} {qual : Str} {params : Arguments} {body : List Stmt} {scope : Scope}
/-- super().__init__(msg) -/
theorem super_run (T : XTxt prog K mg C fI cc cda qual params body scope) {base : Heap} (hb : ∀ b o, base.get? b = some o → s.heap.get? b = some o) (M : L2.Mod K mg base) {L x t0 : Addr} {m : Str → Option Value} {dv : Option Addr} {p0 p1 p2 p3 p4 : Pos} {msg : Expr} {ar : Arg} {Q : Flow → Shared → Prop}
    (hx : s.heap.get? x = some (exO C t0 dv)) (hdv : ∀ d, dv = some d → ∃ od, s.heap.get? d = some od) (hn : s.heap.Ns L m) (hself : m "self" = some (.ref x)) (har : (params.posonlyargs ++ params.args).head? = some ar) (hself' : ar.arg = "self")
    (hks : scope.names.lookup ("super" : Str) = some .globalImplicit) (hkc : scope.names.lookup ("__class__" : Str) = some .free) (hka : scope.names.lookup ("self" : Str) = some .local) (hk : scope.kind = .function)
    (hmsg : ∀ s' : Shared, s'.heap.Ns L m → wpAny (model prog w) A (eval msg (ksEnv qual scope L fI (.ref cda) cc)) (fun v s2 => ∃ z t tk, v = .str z t ∧ s2 = { s' with toks := tk }) E s')
    (hst : starEach [msg] (ksEnv qual scope L fI (.ref cda) cc) = [(false, eval msg (ksEnv qual scope L fI (.ref cda) cc))])
    (hsw : swapsWith (.Call (.Attribute (.Call (.Name "super" p0) [] [] p1) "__init__" p2) [msg] [] p3) none p4.line (ksEnv qual scope L fI (.ref cda) cc) = pure false)
    (hev : ∃ pl : Sem Bool, eval (.Call (.Attribute (.Call (.Name "super" p0) [] [] p1) "__init__" p2) [msg] [] p3) (ksEnv qual scope L fI (.ref cda) cc) = (do
      let ov ← attributeBase (.Call (.Name "super" p0) [] [] p1) "__init__" (ksEnv qual scope L fI (.ref cda) cc) (eval (.Call (.Name "super" p0) [] [] p1) (ksEnv qual scope L fI (.ref cda) cc))
      standAt p2.atName
      let (f, first) ← holding [ov] (getMethod ov "__init__" pl)
      callWith p3 f first (backTo p3 (starEach [msg] (ksEnv qual scope L fI (.ref cda) cc))) []))
    (hq : ∀ h' tk t1, (∀ b o, b ≠ x → s.heap.get? b = some o → h'.get? b = some o) → h'.get? x = some (exO C t1 dv) → Q .next { s with heap := h', toks := tk }) :
    wpAt (model prog w) A (.func body (ksEnv qual scope L fI (.ref cda) cc)) (exec (supSt p0 p1 p2 p3 p4 msg) (ksEnv qual scope L fI (.ref cda) cc)) Q E s := by
  obtain ⟨nm, q, N, bs, bm, sn, sub, ab, col, dd, k0, k1, k2, k3, k5, hC, hbm⟩ := T.cls
  obtain ⟨oc, od, kV, doc, pm, an, ct, osl, lkF, hcd⟩ := T.fn
  obtain ⟨cl, cld, csl, hcell⟩ := T.cell
  obtain ⟨ccl, cdd, vs, ccs, f, tf, hcode, hvs, hfile⟩ := T.code
  have X : K.In s.heap := M.kin.keeps hb
  obtain ⟨mb, hmb, hbt⟩ := M.blt
  obtain ⟨pl, hev⟩ := hev
  have hcx : clsIn K C = some { name := nm, bases := bs, mro := .ref C :: bm, ns := N, qualname := q, hasDict := true, slotNames := sn, subclasses := sub, abstract := ab, collection := col, hasDel := false } := by unfold clsIn; rw [hC] <;> rfl
  obtain ⟨odx, I⟩ : ∃ odx, W.InstAt s.heap x (exO C t0 dv) C odx := by
    cases dv with
    | none => exact ⟨none, hx, rfl, rfl, trivial⟩
    | some d =>
      obtain ⟨od, hod⟩ := hdv d rfl
      exact ⟨some od, hx, rfl, rfl, hod⟩
  have hI : W.Looks (model prog w) s.heap (isInstance (.ref x) (.type "ValueError")) true := I.type.andThen (looks_subIn X T.exVE)
  refine ks_wpAt_Expr_any (ks_wpAt_MethodCall (pl := pl) ?_ hev) (by simp [interactive, hk]) hsw
  refine ks_wpAt_super_base (env := ksEnv qual scope L fI (.ref cda) cc) hks hkc rfl rfl (X _ _ lkF) rfl har rfl (X _ _ hcode) rfl hvs hfile T.top ?_
  refine ks_loadName_global hk hks (Calls.loadGlobal_builtin (env := ksEnv qual scope L fI (.ref cda) cc) (M.glob.keeps hb) T.mgS (hmb.keeps hb) ((hbt _ (by decide +kernel)).trans (by first | rfl | kernel_rfl)) ⟨rfl, ?_⟩)
  refine wpAny_loadName_free hk hkc rfl ⟨_, X _ _ hcell, rfl⟩ ?_
  rw [hself']
  refine wpAny_loadName_local hk hka hn hself ?_
  refine ks_wpAny_isType_cls (X _ _ hC) rfl ⟨rfl, ?_⟩
  obtain ⟨hh, g, d, t, os⟩ := s
  refine ks_wpAny_call_super (X _ _ hC) rfl hx rfl (fun c e => by cases e) (looks_mroIn X T.sub) (fun h1 e1 kk1 => ?_)
  -- the method
  have X1 : K.In h1 := X.keeps kk1
  have hI1 : W.Looks (model prog w) h1 (isInstance (.ref x) (.type "ValueError")) true := hI.keeps kk1
  have hsup := T.supI
  unfold ks_superIn at hsup
  rw [hcx] at hsup
  refine kxs_getMethod kxs_ValueError e1 (looks_opaque X1 T.any) (l₀ := .ref C :: bm) ?_ rfl X1 hsup hI1 (fun z => ?_) rfl ?_
  · exact fun A Q E s k q => wpAny_bind ((looks_clsIn X1 hcx) A _ E s k (wpAny_pure q))
  · subst z
    have := X _ _ hC
    rw [hx] at this
    cases this
  -- the message, the call
  have hne : ∀ (b : Addr) (o : Obj), hh.get? b = some o → ((h1.push (kxs_mw "ValueError.__init__" x))).get? b = some o := fun b o e => Heap.get?_push_of_some _ (kk1 b o e)
  rw [hst]
  have hn2 : (h1.push (kxs_mw "ValueError.__init__" x)).Ns L m := hn.keeps hne
  have hxu : h1.objs.size ≠ x := Nat.ne_of_gt (Heap.lt_size (kk1 _ _ hx))
  refine kxs_callWith (i := "ValueError.__init__") (x := x) rfl (Calls.evalArgs_plain (Calls.spliced_cons (wpAny_mono (hmsg _ hn2) (fun v s2 hv => ?_) fun _ _ z => z)))
  obtain ⟨z, tz, tk, rfl, rfl⟩ := hv
  refine Calls.spliced_nil ⟨Heap.get?_push_at rfl rfl, ?_⟩
  have hu : (h1.push (kxs_mw "ValueError.__init__" x)).get? h1.objs.size = some (kxs_mw "ValueError.__init__" x) := Heap.get?_push_at rfl rfl
  have hx3 : (h1.push (kxs_mw "ValueError.__init__" x)).get? x = some (exO C t0 dv) := hne _ _ hx
  have hC3 : (h1.push (kxs_mw "ValueError.__init__" x)).get? C = some (excClassObj nm q C N bs bm true sn sub ab col dd k0 k1 k2 k3 k5 "ValueError.__new__") := hne _ _ (X _ _ hC)
  show wpAny _ _ (call (.ref h1.objs.size) [Value.str z tz]) _ _ _
  refine wpAny_call (codeAny_of_tree ?_)
  show wpAny _ A.in1 (callAny (.ref h1.objs.size) ⟨[Value.str z tz], []⟩) _ _ _
  simp only [callAny]
  refine wpAny_bind (wpAny_load hu ?_)
  simp only [kxs_mw, show (Value.type "method-wrapper" == Value.type "method" || Value.type "method-wrapper" == Value.type "builtin_function_or_method" || Value.type "method-wrapper" == Value.type "method-wrapper") = true by decide, if_true]
  refine KFB.if_so (by decide) ?_
  have FB := F.excBase_ValueError
  refine wpAny_bind (check_bound_init FB.toExcCallFacts hC3 hx3 rfl ?_)
  refine wpAny_bind (wpAny_pure (wpAny_pure ?_))
  refine ⟨plainId_quiet FB.init.plain _, codeAny_builtin FB.initEntry ?_⟩
  refine exc_init_tree (cls := .ref C) (t0 := t0) (dv := dv) (c2 := .none) (c3 := .none) (b4 := .bool false) hx3 (by show 1 ≤ sizeLine; rw [sizeLine_eq]; decide) fun h' k' e' _ => ?_
  exact hq h' _ _ (fun b o hb e => k' b o hb (hne b o e)) e'
/-- what __init__ leaves of a fresh exception at x -/
structure XEnd (h h' : Heap) (x C t1 : Addr) (dv : Option Addr) (mA : Str → Option Value) : Prop where
  keep : ∀ b o, b ≠ x → h.get? b = some o → h'.get? b = some o
  obj : h'.get? x = some (exO C t1 dv)
  dct : ∀ dx, dv = some dx → h.objs.size ≤ dx ∧ dx ≠ x ∧ h'.Ns1 dx mA
def MsgRun (prog : Program) (w : World) (env : PySem.Env) (m : Str → Option Value) (msg : PySem.Expr) : Prop := ∀ (A : Around) (E : Value → Shared → Prop) (s' : Shared), s'.heap.Ns env.locals m →
  wpAny (model prog w) A (eval msg env) (fun v s2 => ∃ z t tk, v = .str z t ∧ s2 = { s' with toks := tk }) E s'
/-- what the text of __init__ must be -/
structure XForm (env : PySem.Env) (p0 p1 p2 p3 p4 : Pos) (msg : PySem.Expr) : Prop where
  st : starEach [msg] env = [(false, eval msg env)]
  sw : swapsWith (.Call (.Attribute (.Call (.Name "super" p0) [] [] p1) "__init__" p2) [msg] [] p3) none p4.line env = pure false
  ev : ∃ pl : Sem Bool, eval (.Call (.Attribute (.Call (.Name "super" p0) [] [] p1) "__init__" p2) [msg] [] p3) env = (do
      let ov ← attributeBase (.Call (.Name "super" p0) [] [] p1) "__init__" env (eval (.Call (.Name "super" p0) [] [] p1) env)
      standAt p2.atName
      let (f, first) ← holding [ov] (getMethod ov "__init__" pl)
      callWith p3 f first (backTo p3 (starEach [msg] env)) [])
variable {R : Result → Shared → Prop} {base : Heap}
theorem xinit0 {p0 p1 p2 p3 p4 : Pos} {msg : PySem.Expr} {ar : Arg} {x t0 : Addr} (T : XTxt prog K mg C fI cc cda qual params [supSt p0 p1 p2 p3 p4 msg] scope) (hb : ∀ b o, base.get? b = some o → s.heap.get? b = some o) (M : L2.Mod K mg base)
    (hx : s.heap.get? x = some (exO C t0 none)) (hlim : s.heap.NoLimit) (hroom : A.depth < recursionLimit) (har : (params.posonlyargs ++ params.args).head? = some ar) (hself' : ar.arg = "self")
    (hbind : ∀ kV doc pm an ct, BindsTo s (ksFn "__init__" qual params [supSt p0 p1 p2 p3 p4 msg] scope .none kV doc pm an (.ref cda) ct cc) ⟨[.ref x], []⟩ [("self", .ref x)])
    (hcell : ∀ y ∈ scope.names, y.2 ≠ .cell) (hks : scope.names.lookup ("super" : Str) = some .globalImplicit) (hkc : scope.names.lookup ("__class__" : Str) = some .free) (hka : scope.names.lookup ("self" : Str) = some .local) (hk : scope.kind = .function)
    (hco : scope.isCoroutine = false) (hgen : scope.isGenerator = false)
    (hf : ∀ L, XForm (ksEnv qual scope L fI (.ref cda) cc) p0 p1 p2 p3 p4 msg) (hmsg : ∀ L, MsgRun prog w (ksEnv qual scope L fI (.ref cda) cc) (fun y => [(("self" : Str), Value.ref x)].reverse.lookup y) msg)
    (hq : ∀ h' tk t1, XEnd s.heap h' x C t1 none (fun _ => none) → R (.ok (.ret .none)) { s with heap := h', toks := tk }) :
    codeAny (model prog w) A (.call (.ref fI) ⟨[.ref x], []⟩) R s := by
  obtain ⟨oc, od, kV, doc, pm, an, ct, osl, lkF, hcd⟩ := T.fn
  have X : K.In s.heap := M.kin.keeps hb
  refine ks_codeAny_call_defAt (fd := ksFn "__init__" qual params [supSt p0 p1 p2 p3 p4 msg] scope .none kV doc pm an (.ref cda) ct cc) (body := [supSt p0 p1 p2 p3 p4 msg]) (binds := [("self", .ref x)]) hroom (X _ _ lkF) rfl hlim (codeRec_of X hcd) rfl (hbind _ _ _ _ _) hcell
    (fun y hy => ?_) (fun h₁ hns hk₁ => ?_) hco hgen hk
  · have e : y = (("self" : Str), Value.ref x) := List.mem_singleton.mp hy
    rw [e]
    exact hka
  · show wpAt _ _ _ (execs [supSt p0 p1 p2 p3 p4 msg] (ksEnv qual scope s.heap.objs.size fI (.ref cda) cc)) _ _ _
    have f := hf s.heap.objs.size
    refine ks_wpAt_execs_cons (super_run (s := { s with heap := h₁, toks := s.toks + 1 }) T (fun b o e => hk₁ b o (hb b o e)) M (hk₁ _ _ hx) (fun d e => by cases e) hns rfl har hself' hks hkc hka hk (fun s' hs' => hmsg s.heap.objs.size _ _ s' hs') f.st f.sw f.ev fun h' tk t1 k1 e1 => ?_)
    refine wpAt_of_wpAny (wpAny_execs_nil ?_)
    exact hq h' tk t1 ⟨fun b o hbx e => k1 b o hbx (hk₁ b o e), e1, fun dx e => by cases e⟩
end
end PySem.FX

namespace PySem.FX
open PySem PySem.W PySem.Calls PyProof.Rows PySem.Spec
section
variable {prog : Program} {w : World} {A : Around} {E : Value → Shared → Prop} {s : Shared} {K : Frag} {mg : Str → Option Value} {C fI cc cda : Addr} {qual : Str} {params : Arguments} {body : List Stmt} {scope : Scope}
variable {R : Result → Shared → Prop} {base : Heap}
/-- .. with one stored field -/
theorem xinit1 {p0 p1 p2 p3 p4 q1 q2 q3 q4 : Pos} {msg : PySem.Expr} {ar : Arg} {x t0 : Addr} {fl ag : Str} {v : Value} (T : XTxt prog K mg C fI cc cda qual params [stoSt fl ag q1 q2 q3 q4, supSt p0 p1 p2 p3 p4 msg] scope)
    (noN : findIn K (.ref C) fl = some none) (hb : ∀ b o, base.get? b = some o → s.heap.get? b = some o) (hnb : base.get? x = none) (M : L2.Mod K mg base)
    (hx : s.heap.get? x = some (exO C t0 none)) (hlim : s.heap.NoLimit) (hroom : A.depth < recursionLimit) (har : (params.posonlyargs ++ params.args).head? = some ar) (hself' : ar.arg = "self")
    (hbind : ∀ kV doc pm an ct, BindsTo s (ksFn "__init__" qual params [stoSt fl ag q1 q2 q3 q4, supSt p0 p1 p2 p3 p4 msg] scope .none kV doc pm an (.ref cda) ct cc) ⟨[.ref x, v], []⟩ [("self", .ref x), (ag, v)])
    (hcell : ∀ y ∈ scope.names, y.2 ≠ .cell) (hks : scope.names.lookup ("super" : Str) = some .globalImplicit) (hkc : scope.names.lookup ("__class__" : Str) = some .free) (hka : scope.names.lookup ("self" : Str) = some .local) (hkg : scope.names.lookup ag = some .local) (hk : scope.kind = .function)
    (hdg : (ag == ("__debug__" : Str)) = false) (hsg : (ag == ("self" : Str)) = false)
    (hco : scope.isCoroutine = false) (hgen : scope.isGenerator = false)
    (hf : ∀ L, XForm (ksEnv qual scope L fI (.ref cda) cc) p0 p1 p2 p3 p4 msg) (hmsg : ∀ L, MsgRun prog w (ksEnv qual scope L fI (.ref cda) cc) (fun y => [(("self" : Str), Value.ref x), (ag, v)].reverse.lookup y) msg)
    (hq : ∀ h' tk t1 dx, XEnd s.heap h' x C t1 (some dx) (fun y => if y = fl then some v else none) → R (.ok (.ret .none)) { s with heap := h', toks := tk }) :
    codeAny (model prog w) A (.call (.ref fI) ⟨[.ref x, v], []⟩) R s := by
  obtain ⟨oc, od, kV, doc, pm, an, ct, osl, lkF, hcd⟩ := T.fn
  obtain ⟨nm, q, N, bs, bm, sn, sub, ab, col, dd, k0, k1, k2, k3, k5, hC, hbm⟩ := T.cls
  have hcl : clsIn K C = some { name := nm, bases := bs, mro := .ref C :: bm, ns := N, qualname := q, hasDict := true, slotNames := sn, subclasses := sub, abstract := ab, collection := col, hasDel := false } := by unfold clsIn; rw [hC] <;> rfl
  have X : K.In s.heap := M.kin.keeps hb
  have m1 : [(("self" : Str), Value.ref x), (ag, v)].reverse.lookup ("self" : Str) = some (.ref x) := by
    show List.lookup ("self" : Str) [(ag, v), (("self" : Str), Value.ref x)] = _
    have e : (("self" : Str) == ag) = false := by
      rw [Bool.eq_false_iff] at hsg ⊢
      intro z
      exact hsg (by rw [eq_of_beq z]; exact beq_self_eq_true _)
    rw [List.lookup, e]
    rfl
  have m2 : [(("self" : Str), Value.ref x), (ag, v)].reverse.lookup ag = some v := by
    show List.lookup ag [(ag, v), (("self" : Str), Value.ref x)] = _
    rw [List.lookup, beq_self_eq_true]
  refine ks_codeAny_call_defAt (fd := ksFn "__init__" qual params [stoSt fl ag q1 q2 q3 q4, supSt p0 p1 p2 p3 p4 msg] scope .none kV doc pm an (.ref cda) ct cc) (body := [stoSt fl ag q1 q2 q3 q4, supSt p0 p1 p2 p3 p4 msg]) (binds := [("self", .ref x), (ag, v)]) hroom (X _ _ lkF) rfl hlim (codeRec_of X hcd) rfl (hbind _ _ _ _ _) hcell
    (fun y hy => ?_) (fun h₁ hns hk₁ => ?_) hco hgen hk
  · rcases List.mem_cons.mp hy with e | e
    · rw [e]
      exact hka
    · rw [List.mem_singleton.mp e]
      exact hkg
  · show wpAt _ _ _ (execs [stoSt fl ag q1 q2 q3 q4, supSt p0 p1 p2 p3 p4 msg] (ksEnv qual scope s.heap.objs.size fI (.ref cda) cc)) _ _ _
    have f := hf s.heap.objs.size
    have X₁ : K.In h₁ := X.keeps hk₁
    have hx₁ := hk₁ _ _ hx
    refine ks_wpAt_execs_cons (wpAt_of_wpAny (plainObj_wpAny_Assign_Attribute ?_))
    refine wpAny_Name (wpAny_loadName_local hk hkg hns m2 (wpAny_Name (wpAny_loadName_local hk hka hns m1 ?_) (by decide))) hdg
    refine set_plain X₁ (ox := exO C t0 none) (od := none) ⟨hx₁, rfl, rfl, trivial⟩ T.sa ?_
    refine HandSPX.exc_osa X₁ hx₁ hcl (show HandSPX.refsVE (.ref C :: bm) = true from hbm) rfl noN (fun h₃ tk₃ dx k₃ dn dne hx₃ hn₃ => ?_)
    have hLx : s.heap.objs.size ≠ x := Nat.ne_of_gt (Heap.lt_size hx)
    have hns₃ : h₃.Ns s.heap.objs.size (fun y => [(("self" : Str), Value.ref x), (ag, v)].reverse.lookup y) := by
      refine Heap.Ns.at hns fun o e => k₃ _ _ hLx e
    refine ks_wpAt_execs_cons (super_run (dv := some dx) (s := { s with heap := h₃, toks := tk₃ }) T (fun b o e => ?_) M hx₃ (fun d e => ?_) hns₃ m1 har hself' hks hkc hka hk (fun s' hs' => hmsg s.heap.objs.size _ _ s' hs') f.st f.sw f.ev fun h' tk t1 k1 e1 => ?_)
    · refine k₃ _ _ (fun z => ?_) (hk₁ b o (hb b o e))
      subst z
      rw [hnb] at e
      cases e
    · injection e with e
      subst e
      obtain ⟨_, _, _, ho, _⟩ := hn₃
      exact ⟨_, ho⟩
    · refine wpAt_of_wpAny (wpAny_execs_nil ?_)
      refine hq h' tk t1 dx ⟨fun b o hbx e => k1 b o hbx (k₃ b o hbx (hk₁ b o e)), e1, fun dx' e => ?_⟩
      injection e with e
      subst e
      exact ⟨Nat.le_trans (Nat.le_of_lt hns.lt) dn, dne, hn₃.at fun o e => k1 _ _ dne e⟩
/-- a made exception: its fields fv (in its own dict, if there are any) -/
structure XNew (h h' : Heap) (e C : Addr) (dv : Option Addr) (fv : List (Str × Value)) : Prop where
  keep : ∀ b o, h.get? b = some o → h'.get? b = some o
  new : h.objs.size ≤ e
  obj : ∃ oe vs, h'.get? e = some oe ∧ oe.cls = .ref C ∧ oe.dict = dv ∧ oe.data = .fields vs ∧ vs[1]? = some .none
  none' : dv = none → fv = []
  dct : ∀ d, dv = some d → h.objs.size ≤ d ∧ d ≠ e ∧ h'.Ns1 d (fun y => fv.lookup y)
/-- C(us) is made: what its call leaves -/
def XMk (prog : Program) (w : World) (K : Frag) (mg : Str → Option Value) (base : Heap) (C : Addr) (fs : List Str) (ok : List L2.V → Prop) : Prop :=
  ∀ (A : Around) (R : Result → Shared → Prop) (s : Shared) (vs : List L2.V) (us : List Value), L2.Vals vs us → vs.length = fs.length → ok vs → (∀ b o, base.get? b = some o → s.heap.get? b = some o) → L2.Mod K mg base → s.heap.NoLimit → A.depth + 1 < recursionLimit →
    (∀ h' tk e dv, XNew s.heap h' e C dv (fs.zip us) → (dv = none ↔ fs = []) → R (.ok (.ret (.ref e))) { s with heap := h', toks := tk }) → codeAny (model prog w) A (.call (.ref C) ⟨us, []⟩) R s
theorem kin_fresh {h : Heap} (X : K.In h) {x : Addr} (hx : h.objs.size ≤ x) : K.lookup x = none := by
  cases e : K.lookup x with
  | none => rfl
  | some o => exact absurd (Nat.lt_of_lt_of_le (Heap.lt_size (X _ _ e)) hx) (Nat.lt_irrefl _)
theorem mk0 {p0 p1 p2 p3 p4 : Pos} {msg : PySem.Expr} {ar : Arg} (T : XTxt prog K mg C fI cc cda qual params [supSt p0 p1 p2 p3 p4 msg] scope) (har : (params.posonlyargs ++ params.args).head? = some ar) (hself' : ar.arg = "self")
    (hbind : ∀ s x kV doc pm an ct, BindsTo s (ksFn "__init__" qual params [supSt p0 p1 p2 p3 p4 msg] scope .none kV doc pm an (.ref cda) ct cc) ⟨[.ref x], []⟩ [("self", .ref x)])
    (hcell : ∀ y ∈ scope.names, y.2 ≠ .cell) (hks : scope.names.lookup ("super" : Str) = some .globalImplicit) (hkc : scope.names.lookup ("__class__" : Str) = some .free) (hka : scope.names.lookup ("self" : Str) = some .local) (hk : scope.kind = .function)
    (hco : scope.isCoroutine = false) (hgen : scope.isGenerator = false)
    (hf : ∀ L, XForm (ksEnv qual scope L fI (.ref cda) cc) p0 p1 p2 p3 p4 msg) (hmsg : ∀ L x, MsgRun prog w (ksEnv qual scope L fI (.ref cda) cc) (fun y => [(("self" : Str), Value.ref x)].reverse.lookup y) msg) :
    XMk prog w K mg base C [] (fun _ => True) := by
  intro A R s vs us hr hl _ hb M hlim hroom hq
  have eu : vs = [] := List.length_eq_zero_iff.mp hl
  subst eu
  cases hr
  obtain ⟨nm, q, N, bs, bm, sn, sub, ab, col, dd, k0, k1, k2, k3, k5, hC, hbm⟩ := T.cls
  have X : K.In s.heap := M.kin.keeps hb
  obtain ⟨hp, g, dr, tk, os⟩ := s
  have k : ∀ b o, hp.get? b = some o → ((hp.push (kdv_tup [])).push (HandSPX.excO C hp.objs.size)).get? b = some o := fun b o e => Heap.get?_push_of_some _ (Heap.get?_push_of_some _ e)
  have hget : ((hp.push (kdv_tup [])).push (HandSPX.excO C hp.objs.size)).get? (hp.objs.size + 1) = some (HandSPX.excO C hp.objs.size) := by heap_get
  refine HandSPX.call_own F.excBase_ValueError (fun X => HandSPX.refsVE_contains X bm hbm) (X _ _ hC) (looks_findIn X T.iC) (fun self => bind_fn X self T.tI) (by show 0 ≤ sizeLine; exact Nat.zero_le _) ?_
  refine xinit0 (s := ⟨(hp.push (kdv_tup [])).push (HandSPX.excO C hp.objs.size), g, dr, tk, os⟩) T (fun b o e => k b o (hb b o e)) M hget (hlim.keeps k) ?_ har hself' (fun kV doc pm an ct => hbind _ _ kV doc pm an ct) hcell hks hkc hka hk hco hgen hf (fun L => hmsg L _) fun h' tk' t1 xe => ?_
  · show A.depth + 1 < recursionLimit
    exact hroom
  · have old : ∀ b o, hp.get? b = some o → h'.get? b = some o := fun b o e => xe.keep b o (Nat.ne_of_lt (Nat.lt_succ_of_lt (Heap.lt_size e))) (k b o e)
    exact ⟨rfl, hq h' tk' (hp.objs.size + 1) none ⟨old, Nat.le_succ _, ⟨_, _, xe.obj, rfl, rfl, rfl, rfl⟩, fun _ => rfl, fun d e => by cases e⟩ ⟨fun _ => rfl, fun _ => rfl⟩⟩
theorem mk1 {p0 p1 p2 p3 p4 q1 q2 q3 q4 : Pos} {msg : PySem.Expr} {ar : Arg} {fl ag : Str} {ok : L2.V → Prop} (T : XTxt prog K mg C fI cc cda qual params [stoSt fl ag q1 q2 q3 q4, supSt p0 p1 p2 p3 p4 msg] scope)
    (noN : findIn K (.ref C) fl = some none) (har : (params.posonlyargs ++ params.args).head? = some ar) (hself' : ar.arg = "self")
    (hbind : ∀ s x v kV doc pm an ct, BindsTo s (ksFn "__init__" qual params [stoSt fl ag q1 q2 q3 q4, supSt p0 p1 p2 p3 p4 msg] scope .none kV doc pm an (.ref cda) ct cc) ⟨[.ref x, v], []⟩ [("self", .ref x), (ag, v)])
    (hcell : ∀ y ∈ scope.names, y.2 ≠ .cell) (hks : scope.names.lookup ("super" : Str) = some .globalImplicit) (hkc : scope.names.lookup ("__class__" : Str) = some .free) (hka : scope.names.lookup ("self" : Str) = some .local) (hkg : scope.names.lookup ag = some .local) (hk : scope.kind = .function)
    (hdg : (ag == ("__debug__" : Str)) = false) (hsg : (ag == ("self" : Str)) = false)
    (hco : scope.isCoroutine = false) (hgen : scope.isGenerator = false)
    (hf : ∀ L, XForm (ksEnv qual scope L fI (.ref cda) cc) p0 p1 p2 p3 p4 msg) (hmsg : ∀ L x v u, L2.RelV v u → ok v → MsgRun prog w (ksEnv qual scope L fI (.ref cda) cc) (fun y => [(("self" : Str), Value.ref x), (ag, u)].reverse.lookup y) msg) :
    XMk prog w K mg base C [fl] (fun vs => ∀ v ∈ vs, ok v) := by
  intro A R s vs us hr hl hok hb M hlim hroom hq
  match vs, us, hr, hl with
  | [v], [u], .cons rv .nil, _ =>
  obtain ⟨nm, q, N, bs, bm, sn, sub, ab, col, dd, k0, k1, k2, k3, k5, hC, hbm⟩ := T.cls
  have X : K.In s.heap := M.kin.keeps hb
  obtain ⟨hp, g, dr, tk, os⟩ := s
  have k : ∀ b o, hp.get? b = some o → ((hp.push (kdv_tup [u])).push (HandSPX.excO C hp.objs.size)).get? b = some o := fun b o e => Heap.get?_push_of_some _ (Heap.get?_push_of_some _ e)
  have hget : ((hp.push (kdv_tup [u])).push (HandSPX.excO C hp.objs.size)).get? (hp.objs.size + 1) = some (HandSPX.excO C hp.objs.size) := by heap_get
  have hnb : base.get? (hp.objs.size + 1) = none := by
    cases e : base.get? (hp.objs.size + 1) with
    | none => rfl
    | some o => exact absurd (Nat.lt_of_succ_lt (Heap.lt_size (hb _ _ e))) (Nat.lt_irrefl _)
  refine HandSPX.call_own F.excBase_ValueError (fun X => HandSPX.refsVE_contains X bm hbm) (X _ _ hC) (looks_findIn X T.iC) (fun self => bind_fn X self T.tI) (by show 1 ≤ sizeLine; rw [sizeLine_eq]; decide) ?_
  refine xinit1 (s := ⟨(hp.push (kdv_tup [u])).push (HandSPX.excO C hp.objs.size), g, dr, tk, os⟩) T noN (fun b o e => k b o (hb b o e)) hnb M hget (hlim.keeps k) ?_ har hself' (fun kV doc pm an ct => hbind _ _ _ kV doc pm an ct) hcell hks hkc hka hkg hk hdg hsg hco hgen hf
    (fun L => hmsg L _ v u rv (hok v List.mem_cons_self)) fun h' tk' t1 dx xe => ?_
  · show A.depth + 1 < recursionLimit
    exact hroom
  · have old : ∀ b o, hp.get? b = some o → h'.get? b = some o := fun b o e => xe.keep b o (Nat.ne_of_lt (Nat.lt_succ_of_lt (Heap.lt_size e))) (k b o e)
    obtain ⟨d1, d2, d3⟩ := xe.dct dx rfl
    have z : hp.objs.size ≤ dx := by
      have q := d1
      simp only [Heap.size_push] at q
      omega
    refine ⟨rfl, hq h' tk' (hp.objs.size + 1) (some dx) ⟨old, Nat.le_succ _, ⟨_, _, xe.obj, rfl, rfl, rfl, rfl⟩, fun e => (nomatch e), fun d e => ?_⟩ ⟨fun e => (nomatch e), fun e => (nomatch e)⟩⟩
    injection e with e
    subst e
    refine ⟨z, d2, ?_⟩
    have ef : (fun y : Str => List.lookup y (([fl] : List Str).zip [u])) = fun y => if y = fl then some u else none := by
      funext y
      show List.lookup y [(fl, u)] = _
      by_cases hy : y = fl
      · subst hy
        rw [if_pos rfl, List.lookup, beq_self_eq_true]
      · have qy : (y == fl) = false := by simpa using hy
        rw [if_neg hy, List.lookup, qy]
        rfl
    rw [ef]
    exact d3
end
end PySem.FX

namespace PySem.FX
open PySem PySem.W PySem.Calls PyProof.Rows PySem.Spec
section
variable {prog : Program} {w : World} {env : PySem.Env} {m : Str → Option Value}
theorem msg_const {x : Str} {k : Nat} {pos : Pos} : MsgRun prog w env m (.Constant (.str x) k pos) := fun A E s' hn => wpAny_Constant_str ⟨x, _, _, rfl, rfl⟩
/-- parts of an f-string: at most n code points in all -/
def MPs (prog : Program) (w : World) (env : PySem.Env) (m : Str → Option Value) (es : List PySem.Expr) (n : Nat) : Prop := ∀ (A : Around) (E : Value → Shared → Prop) (s' : Shared) (acc : Str) (Q : Str → Shared → Prop), s'.heap.Ns env.locals m → acc.length + n ≤ 16777216 →
  (∀ acc' tk, acc'.length ≤ acc.length + n → Q acc' { s' with toks := tk }) → Joins (model prog w) A E (evalEach es env) acc Q s'
theorem mps_nil : MPs prog w env m [] 0 := fun A E s' acc Q hn hl hq => hq acc s'.toks (Nat.le_refl _)
theorem mps_cons {e : PySem.Expr} {es : List PySem.Expr} {n k : Nat} (he : ∀ (A : Around) (E : Value → Shared → Prop) (s' : Shared), s'.heap.Ns env.locals m → wpAny (model prog w) A (eval e env) (fun v s2 => ∃ z t tk, v = .str z t ∧ z.length ≤ k ∧ s2 = { s' with toks := tk }) E s')
    (h : MPs prog w env m es n) (hs : evalEach (e :: es) env = eval e env :: evalEach es env := by rfl) : MPs prog w env m (e :: es) (k + n) := by
  intro A E s' acc Q hn hl hq
  rw [hs]
  refine wpAny_mono (he A E s' hn) (fun v s2 hv => ?_) fun _ _ z => z
  obtain ⟨z, t, tk, rfl, hz, rfl⟩ := hv
  have el : (acc ++ z).length = acc.length + z.length := strLen_append ..
  refine ⟨z, t, rfl, by rw [sizeLine_eq, el]; omega, h A E { s' with toks := tk } (acc ++ z) Q hn (by omega) fun acc' tk' hl' => hq acc' tk' (by omega)⟩
theorem msg_join {e1 e2 : PySem.Expr} {es : List PySem.Expr} {pos : Pos} {n : Nat} (h : MPs prog w env m (e1 :: e2 :: es) n) (hn : n ≤ 16777216) : MsgRun prog w env m (.JoinedStr (e1 :: e2 :: es) pos) := by
  intro A E s' hns
  refine wpAny_JoinedStr (h A E s' Str.empty _ hns (by show 0 + n ≤ _; omega) fun acc' tk hl => ⟨by rw [sizeLine_eq]; have : acc'.length ≤ 0 + n := hl; omega, acc', _, _, rfl, rfl⟩)
theorem mp_const {x : Str} {k : Nat} {pos : Pos} (n : Nat) (hx : x.length ≤ n := by decide) : ∀ (A : Around) (E : Value → Shared → Prop) (s' : Shared), s'.heap.Ns env.locals m → wpAny (model prog w) A (eval (.Constant (.str x) k pos) env) (fun v s2 => ∃ z t tk, v = .str z t ∧ z.length ≤ n ∧ s2 = { s' with toks := tk }) E s' :=
  fun A E s' hn => wpAny_Constant_str ⟨x, _, _, rfl, hx, rfl⟩
/-- {name!r}, name a text -/
theorem mp_repr {x : Str} {p pos : Pos} {z : Str} {t : Tok} (hk : env.scope.kind = .function) (hl : env.scope.names.lookup x = some .local) (hm : m x = some (.str z t)) (hz : (reprText z).length ≤ 16000000) (hd : (x == ("__debug__" : Str)) = false := by decide) :
    ∀ (A : Around) (E : Value → Shared → Prop) (s' : Shared), s'.heap.Ns env.locals m → wpAny (model prog w) A (eval (.FormattedValue (.Name x p) 114 none pos) env) (fun v s2 => ∃ z t tk, v = .str z t ∧ z.length ≤ 16000000 ∧ s2 = { s' with toks := tk }) E s' := fun A E s' hn => by
  have hz2 : (reprText z).length ≤ sizeLine := by rw [sizeLine_eq]; omega
  refine wpAny_FormattedValue_repr (wpAny_Name (wpAny_loadName_local hk hl hn hm (pyReprObj_str (wpAny_formatField_str ⟨_, _, _, rfl, hz, rfl⟩ ⟨_, _, _, rfl, hz, rfl⟩ hz2) hz2)) hd)
/-- {name}, name a text -/
theorem mp_plain {x : Str} {p pos : Pos} {z : Str} {t : Tok} (hk : env.scope.kind = .function) (hl : env.scope.names.lookup x = some .local) (hm : m x = some (.str z t)) (hz : z.length ≤ 16000000) (hd : (x == ("__debug__" : Str)) = false := by decide) :
    ∀ (A : Around) (E : Value → Shared → Prop) (s' : Shared), s'.heap.Ns env.locals m → wpAny (model prog w) A (eval (.FormattedValue (.Name x p) (-1) none pos) env) (fun v s2 => ∃ z t tk, v = .str z t ∧ z.length ≤ 16000000 ∧ s2 = { s' with toks := tk }) E s' := fun A E s' hn => by
  have hz2 : z.length ≤ sizeLine := by rw [sizeLine_eq]; omega
  exact wpAny_FormattedValue_plain (wpAny_Name (wpAny_loadName_local hk hl hn hm (wpAny_formatField_str ⟨_, _, _, rfl, hz, rfl⟩ ⟨_, _, _, rfl, hz, rfl⟩ hz2)) hd)
end
end PySem.FX
namespace L2
open PySem PySem.Spec PyProof.Rows
theorem relO_zip {f : Str} : ∀ {fs : List Str} {vs : List V} {us : List Value}, Vals vs us → RelO (List.lookup f (fs.zip vs)) (List.lookup f (fs.zip us))
  | [], _, _, _ => trivial
  | _ :: _, _, _, .nil => trivial
  | g :: fs, _, _, .cons (a := v) (l₁ := vs) (b := u) (l₂ := us) r rs => by
    show RelO (List.lookup f ((g, v) :: fs.zip vs)) (List.lookup f ((g, u) :: fs.zip us))
    rw [List.lookup, List.lookup]
    cases f == g with
    | true => exact r
    | false => exact relO_zip rs
section
variable {X : Cx} {C : Addr} {fs : List Str} {ok : List V → Prop}
/-- C(e, ..) -/
def tMkX (C : Addr) (fs : List Str) (ok : List V → Prop) (ta : TA) : St → Hp → XK → Prop := fun σ H Q => ta σ H fun vs H1 => vs.length = fs.length ∧ ok vs ∧ (fs = [] → Q (.ref C) none H1) ∧ (fs ≠ [] → ∀ d, H1 d = none → Q (.ref C) (some d) (upd H1 d (.xd (fs.zip vs))))
/-- what the text says of the class C as the def's name x calls it -/
structure MkC (X : Cx) (x : Str) (C : Addr) (fs : List Str) (ok : List V → Prop) : Prop where
  mkc : PySem.FX.XMk X.prog X.w X.K X.mg X.base C fs ok
  gC : X.mg x = some (.ref C)
  kC : PySem.W.keepIn X.K (.ref C) = true
  exC : PySem.W.subIn X.K (.ref C) (.type "BaseException") = some true
  tyC : PySem.W.typeIn X.K (.ref C) = some (.type "type")
theorem mk_run {x : Str} {k : Nat} (T : MkC X x C fs ok) (hr : Room k X.A) {pins : List (Addr × Obj)} {σ : St} {H1 : Hp} {s1 : Shared} {Q : XK} {vs : List V} {us : List Value} (I1 : Inv X pins σ H1 s1) (r1 : Vals vs us) (hk : 2 ≤ k)
    (hl : vs.length = fs.length) (hok : ok vs) (q0 : fs = [] → Q (.ref C) none H1) (q1 : fs ≠ [] → ∀ d, H1 d = none → Q (.ref C) (some d) (upd H1 d (.xd (fs.zip vs)))) :
    wpAny (model X.prog X.w) X.A (call (.ref C) us) (MkP X pins σ Q) X.xe s1 := by
  have hlim := I1.nolimit
  obtain ⟨hp, g, dr, tk, os⟩ := s1
  refine wpAny_call (T.mkc X.A _ ⟨hp, g, dr, tk, os⟩ vs us r1 hl hok (fun b o e => (I1.bk b o e)) I1.ok.mod hlim (by have := hr.dp; omega) fun h' tk' e dv M hdv => ?_)
  show MkP X pins σ Q (.ref e) ⟨h', g, dr, tk', os⟩
  obtain ⟨oe, fv, hoe, hc, hd, hdat, h1⟩ := M.obj
  cases dv with
  | none =>
    obtain ⟨G', g1, g2⟩ := restrict h' fun b => decide (b ≠ e)
    have gk : ∀ b, b ≠ e → G'.get? b = h'.get? b := fun b hb => g1 b (decide_eq_true hb)
    have ge : G'.get? e = none := g2 e (by simp)
    have old : ∀ b o, hp.get? b = some o → G'.get? b = some o := fun b o q => (gk b (Nat.ne_of_lt (Nat.lt_of_lt_of_le (Heap.lt_size q) M.new))).trans (M.keep b o q)
    have J : Inv X pins σ H1 ⟨G', g, dr, tk', os⟩ := I1.kept old
    refine ⟨e, oe, fv, ⟨G', g, dr, tk', os⟩, _, .ref C, none, rfl, J, fun b o q => ?_, ge, hoe, ⟨hc, hd⟩, hdat, h1, ?_, rfl, I1.bare, raises_own T.exC T.tyC, q0 (hdv.mp rfl)⟩
    · by_cases hb : b = e
      · have q' : G'.get? b = some o := q
        rw [hb, ge] at q'; cases q'
      · exact (gk b hb).symm.trans q
    · exact I1.hok.fresh M.new
  | some d =>
    obtain ⟨d1, d2, hns⟩ := M.dct d rfl
    obtain ⟨G', g1, g2⟩ := restrict h' fun b => decide (b ≠ e)
    have gk : ∀ b, b ≠ e → G'.get? b = h'.get? b := fun b hb => g1 b (decide_eq_true hb)
    have ge : G'.get? e = none := g2 e (by simp)
    have old : ∀ b o, hp.get? b = some o → G'.get? b = some o := fun b o q => (gk b (Nat.ne_of_lt (Nat.lt_of_lt_of_le (Heap.lt_size q) M.new))).trans (M.keep b o q)
    have ob : ObjOk X.prog X.w (upd H1 d (.xd (fs.zip vs))) G' d (.xd (fs.zip vs)) :=
      ⟨_, hns.at (fun o q => (gk d d2).trans q), fun f => relO_zip r1⟩
    have J : Inv X pins σ (upd H1 d (.xd (fs.zip vs))) ⟨G', g, dr, tk', os⟩ := I1.laid (t' := tk') old d1 ob
    refine ⟨e, oe, fv, ⟨G', g, dr, tk', os⟩, _, .ref C, some d, rfl, J, fun b o q => ?_, ge, hoe, ⟨hc, hd⟩, hdat, h1, ?_, rfl, I1.bare, raises_own T.exC T.tyC, q1 (fun z => by cases hdv.mpr z) d (I1.hok.fresh d1)⟩
    · by_cases hb : b = e
      · have q' : G'.get? b = some o := q
        rw [hb, ge] at q'; cases q'
      · exact (gk b hb).symm.trans q
    · rw [upd_ne (Ne.symm d2)]
      exact I1.hok.fresh M.new
theorem pmk_x {x : Str} {a : Expr} {es : List Expr} {ta : TA} {p pos : Pos} {k : Nat} (T : MkC X x C fs ok) (hr : Room k X.A) (hk : 2 ≤ k) (ha : PA X (a :: es) ta) (hg : Gl X x) (hd : (x == ("__debug__" : Str)) = false := by decide)
    (he : starEach (a :: es) X.env = (false, eval a X.env) :: starEach es X.env := by rfl) (hpl : (backTo pos (starEach es X.env)).any (·.1) = false := by rfl) :
    PMk X (.Call (.Name x p) (a :: es) [] pos) (tMkX C fs ok ta) := by
  intro pins s σ H Q I h
  refine wpAny_Call_Name_kw (ld_glob I hg T.gC ?_ hd)
  refine PySem.W.callWith_K (h₀ := X.base) I.ok.mod.kin T.kC (thn (ha.run pos pins s σ H _ I h) fun us s1 hh => ?_) he hpl
  obtain ⟨vs, H1, I1, r1, hl, hok, q0, q1⟩ := hh
  exact ⟨I1.kIn, mk_run T hr I1 r1 hk hl hok q0 q1⟩
theorem pmk_x0 {x : Str} {p pos : Pos} {k : Nat} (T : MkC X x C fs ok) (hr : Room k X.A) (hk : 2 ≤ k) (hg : Gl X x) (hd : (x == ("__debug__" : Str)) = false := by decide) :
    PMk X (.Call (.Name x p) [] [] pos) (tMkX C fs ok tNil) := by
  intro pins s σ H Q I h
  refine wpAny_Call_Name_kw (ld_glob I hg T.gC ?_ hd)
  obtain ⟨hl, hok, q0, q1⟩ := h
  exact PySem.W.callWith_K0 I.kIn T.kC (mk_run (us := []) T hr I .nil hk hl hok q0 q1)
end
end L2

/-! isinstance of a caught error, with an own dict or without -/
namespace L2
open PySem PyProof.Rows PySem.Spec
/-- isinstance(e, c), e the exception that the suite holds (its class at D, its dict d, tracked with fs) -/
def rIsX (K : PySem.W.Frag) (D a : Addr) (d : Option Addr) : List V → Hp → VK → Prop := fun xs H Q => ∃ (c : V) (cv : Value) (b : Bool), xs = [.ref a, c] ∧ (∀ d', d = some d' → ∃ fs, H d' = some (.xd fs)) ∧ (∀ u, RelV c u → u = cv) ∧ PySem.W.kitOne K (.ref D) cv = some b ∧ Q (.bl b) H
theorem call_isX {X : Cx} {a D : Addr} {d : Option Addr} {oe : Obj} {pn : List (Addr × Obj)} (C : ExcC X.K D) (hz : Zc (.ref D) d oe) (hf : ∃ vs, oe.data = .fields vs) : CallR (X.suite a ((a, oe) :: pn)) (.builtin "isinstance") (rIsX X.K D a d) := by
  intro ps s0 st H xs us Q I rr hyp
  obtain ⟨c, cv, b, rfl, hdd, hcv, eb, q⟩ := hyp
  obtain ⟨vs, hv⟩ := hf
  match us, rr with
  | [_, _], .cons rx (.cons rt .nil) =>
    cases rx
    have ec := hcv _ rt
    subst ec
    have hget := (I.pin (a, oe) (List.mem_append_left _ List.mem_cons_self)).1
    have J : ∃ odd, PySem.W.InstAt s0.heap a oe D odd := by
      cases d with
      | none => exact ⟨none, hget, hz.1, by unfold PySem.W.notCls; rw [hv] <;> rfl, by rw [hz.2]; trivial⟩
      | some dd =>
        obtain ⟨fs, ea⟩ := hdd dd rfl
        obtain ⟨mA, hns, _⟩ := (I.hok dd _ ea : ObjOk X.prog X.w H s0.heap dd (.xd fs))
        obtain ⟨od, ho, _⟩ := lookIn_ns hns
        exact ⟨some od, hget, hz.1, by unfold PySem.W.notCls; rw [hv] <;> rfl, by rw [hz.2]; exact ho⟩
    obtain ⟨odd, J⟩ := J
    have hcl : (PySem.W.clsIn X.K D).isSome = true := by
      obtain ⟨cd, hc, _⟩ := PySem.W.any_some C.hd
      rw [hc]
      rfl
    exact PySem.W.kia_one (PySem.W.kitx_exc (od := odd) hcl C.hg C.hk C.hs C.ha C.hn C.ht C.hm) I.kIn J eb (fun z => nomatch z) fun tk => ⟨.bl b, H, I.kept (t' := tk) fun _ _ z => z, rfl, q⟩
end L2

namespace FD
open PySem L2 PyProof.Rows PySem.Spec
/-! ### calls of defs, by what they promise of their actual arguments -/
def PostO (K : PySem.W.Frag) (A : Ad) (H : Hp) (Q : VK) (E : XK) (o : Out Dt) : Prop := match o with
  | .ok d => ∀ v H', Same H H' → Rep K H' A d v → Q v H'
  | .exc x => ∀ c od H', Same H H' → ExOk K H' x c od → E c od H'
  | .bad => False
def spR (K : PySem.W.Frag) (φ : List Dt → Out Dt) : Sp := fun vs H Q E => ∃ (ds : List Dt) (A : Ad), Reps K H A ds vs ∧ (∀ a, A a → Mut (H a)) ∧ PostO K A H Q E (φ ds)
/-- a def that is called with n arguments -/
def argN (n : Nat) (φ : List Dt → Out Dt) (ds : List Dt) : Out Dt := if ds.length = n then φ ds else .bad
/-- .. with n arguments, or fewer: the last ones are dd -/
def argD (n : Nat) (dd : List Dt) (φ : List Dt → Out Dt) (ds : List Dt) : Out Dt := if ds.length ≤ n ∧ n ≤ ds.length + dd.length then φ (ds ++ dd.drop (ds.length + dd.length - n)) else .bad
/-- .. with n arguments, the rest a tuple -/
def argS (n : Nat) (φ : List Dt → Out Dt) (ds : List Dt) : Out Dt := if n ≤ ds.length ∧ ds.length ≤ 16777216 then φ (ds.take n ++ [.tup (ds.drop n)]) else .bad
structure ClR (P : Program) (w : World) (K : PySem.W.Frag) (mg : Str → Option Value) (base : Heap) (x : Str) (k : Nat) (φ : List Dt → Out Dt) : Prop where
  ex : ∃ (f : Addr), FnR P w K mg base (L2.CX P w) k f (spR K φ) ∧ mg x = some (.ref f) ∧ PySem.W.keepIn K (.ref f) = true
section
variable {P : Program} {w : World} {K : PySem.W.Frag} {mg : Str → Option Value} {base : Heap} {H : Hp} {A : Ad}
theorem cl_of {x : Str} {f : Addr} {fd : FuncData} {ps : List Str} {k n : Nat} {φ : List Dt → Out Dt} (F : FnOk P w K mg base (L2.CX P w) k f fd ps (spD K n φ)) (hm : mg x = some (.ref f)) (hk : PySem.W.keepIn K (.ref f) = true) (hb : Binds K fd ps []) : ClR P w K mg base x k (argN n φ) := by
  refine ⟨f, FnR.imp (F.raw hb .nil) (fun vs H Q E h => ?_), hm, hk⟩
  obtain ⟨ds, A, r, ha, h⟩ := h
  unfold argN at h
  by_cases hl : ds.length = n
  · rw [if_pos hl] at h
    exact ⟨ds, A, by rw [List.append_nil]; exact r, hl, ha, h⟩
  · rw [if_neg hl] at h
    exact False.elim h
theorem fnR_or {k : Nat} {f : Addr} {sp sp' : Sp} (F : FnR P w K mg base (L2.CX P w) k f sp) (F' : FnR P w K mg base (L2.CX P w) k f sp') : FnR P w K mg base (L2.CX P w) k f (fun vs H Q E => sp vs H Q E ∨ sp' vs H Q E) :=
  fun A outer s H us vs Q E hr e0 r h => h.elim (F A outer s H us vs Q E hr e0 r) (F' A outer s H us vs Q E hr e0 r)
/-- one default -/
theorem cl_of1 {x : Str} {f : Addr} {fd : FuncData} {ps : List Str} {k n : Nat} {φ : List Dt → Out Dt} {dv : V} {du : Value} {d : Dt} (F : FnOk P w K mg base (L2.CX P w) k f fd ps (spD K n φ)) (hm : mg x = some (.ref f)) (hk : PySem.W.keepIn K (.ref f) = true) (hb : Binds K fd ps [])
    (hb1 : Binds K fd ps [du]) (hv : RelV dv du) (hd : ∀ H A, Rep K H A d dv) (hn : 0 < n) : ClR P w K mg base x k (argD n [d] φ) := by
  refine ⟨f, FnR.imp (fnR_or (F.raw hb .nil) (F.raw hb1 (.cons hv .nil))) (fun vs H Q E h => ?_), hm, hk⟩
  obtain ⟨ds, A, r, ha, h⟩ := h
  unfold argD at h
  by_cases hl : ds.length ≤ n ∧ n ≤ ds.length + [d].length
  · rw [if_pos hl] at h
    obtain ⟨h1, h2⟩ := hl
    rw [List.length_singleton] at h2 h
    by_cases e : ds.length = n
    · refine .inl ⟨ds, A, by rw [List.append_nil]; exact r, e, ha, ?_⟩
      have e2 : ([d] : List Dt).drop (ds.length + 1 - n) = [] := by
        rw [e, show n + 1 - n = 1 by omega]
        rfl
      rw [e2, List.append_nil] at h
      exact h
    · have e1 : ds.length + 1 = n := by omega
      refine .inr ⟨ds ++ [d], A, r.append (Reps.cons (hd _ _) Reps.nil), by rw [List.length_append, List.length_singleton]; exact e1, ha, ?_⟩
      rw [e1, Nat.sub_self, List.drop_zero] at h
      exact h
  · rw [if_neg hl] at h
    exact False.elim h
/-- a def with a star parameter -/
theorem cl_star {x qual : Str} {name : Str} {params : Arguments} {body : List Stmt} {scope : Scope} {dV kV doc pm cdv ct oc : Value} {an od : Option Addr} {osl : Array (Option Value)} {f : Addr} {N ps : List Str} {pv : Str} {k : Nat} {g : Env → SOut}
    (lk : K.lookup f = some ⟨oc, od, .func (PySem.W.fnOf name qual params body scope dV kV doc pm an cdv ct), osl⟩) (hcd : PySem.W.codeIn K cdv qual = true) (S : FnScope N (ps ++ [pv]) scope)
    (hb : ∀ us rest : List Value, us.length = ps.length → bindArgs (PySem.W.fnOf name qual params body scope dV kV doc pm an cdv ct) ⟨us ++ rest, []⟩ = (newTuple rest >>= fun t => pure (ps.zip us ++ [(pv, t)]))) (hm : mg x = some (.ref f)) (hk : PySem.W.keepIn K (.ref f) = true)
    (hbody : ∀ (A : Around) (outer : List PySem.Env) (s : Shared) (H : Hp) (E : XK), Room k (A.deeper (envOfC qual scope s.heap.objs.size f cdv)) → PSsD (cxOf (L2.CX P w) P w K mg base N qual scope f cdv A outer s H E) (fun c d _ H' => E c d H') body g) :
    ClR P w K mg base x (k + 1) (argS ps.length (runD N.length g)) := by
  refine ⟨f, FnR.imp (StX.fn_star (sp := spD K (ps.length + 1) (runD N.length g)) lk hcd S StX.cxUp hb (fun A outer s H vs Q E hr h => ?_)) (fun vs H Q E h => ?_), hm, hk⟩
  · obtain ⟨ds, A', r, hl, ha, h⟩ := h
    obtain ⟨ts, hp, hd⟩ := hbody A outer s H E hr
    refine ⟨ts, hp, ?_⟩
    refine hd H A' _ _ H _ (start_ok r ha) ?_
    unfold runD at h
    cases e : g (ds.map (fun d => some (Lo.sh d)) ++ List.replicate (N.length - ds.length) none) with
    | ok fl ρ =>
      rw [e] at h
      cases fl with
      | nx => exact fun σ H' s' => h .non H' s'.same rfl
      | rt d => exact fun v H' s' r' => h v H' s' r'
      | bk => exact h.elim
      | ct => exact h.elim
    | exc x ρ =>
      rw [e] at h
      exact fun σ H' c od s' r' => h c od H' s'.same r'
    | bad => rw [e] at h; exact h.elim
  · obtain ⟨ds, A, r, ha, h⟩ := h
    unfold argS at h
    by_cases hl : ps.length ≤ ds.length ∧ ds.length ≤ 16777216
    · rw [if_pos hl] at h
      obtain ⟨h1, h2⟩ := hl
      refine ⟨vs.take ps.length, vs.drop ps.length, (List.take_append_drop _ _).symm, ?_, ?_, fun p hp => ?_⟩
      · rw [List.length_take, r.length]; omega
      · rw [List.length_drop, r.length, sizeLine_eq]; omega
      · have sm : Same H (upd H p (.tup (vs.drop ps.length))) := Same.new hp
        refine ⟨ds.take ps.length ++ [.tup (ds.drop ps.length)], A, Reps.append ((Reps.take _ r).same sm) (Reps.cons ?_ Reps.nil), ?_, fun a z => ?_, ?_⟩
        · unfold Rep
          refine ⟨p, _, rfl, .inl ⟨fun z => ?_, upd_same⟩, (Reps.drop _ r).same sm⟩
          have q := ha p z
          rw [hp] at q
          exact q
        · rw [List.length_append, List.length_take, List.length_singleton]; omega
        · have q := ha a z
          rw [upd_ne]
          · exact q
          · intro e
            rw [e, hp] at q
            exact q
        · cases eo : runD N.length g (ds.take ps.length ++ [.tup (ds.drop ps.length)]) with
          | ok d => rw [eo] at h; exact fun v H' s' r' => h v H' (sm.trans s') r'
          | exc x => rw [eo] at h; exact fun c od H' s' r' => h c od H' (sm.trans s') r'
          | bad => rw [eo] at h; exact h
    · rw [if_neg hl] at h
      exact False.elim h
end
section
variable {X : Cx} {W : WX} {e : Expr} {es : List Expr} {fs : Env → Out (List Dt)} {fe : Env → Out Dt} {lk : List Nat} {p pos sps : Pos} {φ : List Dt → Out Dt}
def eCallR (φ : List Dt → Out Dt) (f : Env → Out (List Dt)) : Env → Out Dt := fun ρ => (f ρ).bind φ
def tCallR (sp : Sp) (E : L2.St → XK) (t : TA) : TE := fun σ H Q => t σ H fun vs H1 => sp vs H1 Q (E σ)
theorem ted_callR {K : PySem.W.Frag} {ta : TA} (ha : TAD K W ta fs lk) : TED K W (tCallR (spR K φ) (WE W) ta) (eCallR φ fs) lk := by
  intro H0 A0 ρ σ H Q s h
  refine ha _ _ _ _ _ _ s (h.seq fun ds _ h1 vs H1 s1 r1 => ?_)
  refine ⟨ds, Av A0 ρ σ lk, r1, fun a z => (s.grow s1).avMut z, ?_⟩
  unfold PostO
  cases eo : φ ds with
  | ok d => rw [eo] at h1; exact fun v H' s' r => h1 v H' (s1.trans s') r
  | exc x => rw [eo] at h1; exact fun c od H' s' r => h1 c od H' (s1.trans s') r
  | bad => rw [eo] at h1; exact h1
theorem run_fnRS {CX : CXT} {k : Nat} {f : Addr} {sp : Sp} {E : L2.St → XK} {Q : VK} {pins : List (Addr × Obj)} {σ : L2.St} {H : Hp} {s : Shared} {us : List Value} {vs : List V} (F : FnR X.prog X.w X.K X.mg X.base CX k f sp) (hr : Room k X.A) (hx : PassesAt CX X σ (E σ)) (I : Inv X pins σ H s) (r : Vals vs us) (h : sp vs H Q (E σ)) :
    wpAny (model X.prog X.w) X.A (call (.ref f) us) (EP X pins σ Q) X.xe s := by
  refine wpAny_call (codeAny_mono (F X.A X.stack s H us vs Q (E σ) hr I.env0 r h) fun r s' hq => ?_)
  cases r with
  | error e => exact hx pins H s e s' I hq
  | ok fl =>
    cases fl with
    | ret u => exact I.after hq
    | next => exact False.elim hq
    | brk => exact False.elim hq
    | cont => exact False.elim hq
theorem pd_callR {x : Str} {k j : Nat} (c : ClR X.prog X.w X.K X.mg X.base x k φ) (tk : Takes X W) (hr : Room j X.A) (hk : k ≤ j) (hg : Gl X x) (ha : PAD X W (e :: es) fs lk) (hdb : (x == ("__debug__" : Str)) = false := by decide)
    (he : starEach (e :: es) X.env = (false, eval e X.env) :: starEach es X.env := by rfl) (hpl : (backTo pos (starEach es X.env)).any (·.1) = false := by rfl) : PED X W (.Call (.Name x p) (e :: es) [] pos) (eCallR φ fs) lk := by
  obtain ⟨f, F, hm, kp⟩ := c.ex
  obtain ⟨ta, pa, da⟩ := ha
  refine ⟨_, ⟨fun pins s σ H Q I h => ?_⟩, ted_callR da⟩
  refine wpAny_Call_Name_kw (ld_glob I hg hm ?_ hdb)
  refine PySem.W.callWith_K (h₀ := X.base) I.ok.mod.kin kp (thn (pa.run pos pins s σ H _ I h) fun us s1 ⟨vs, H1, I1, r, q⟩ => ⟨I1.kIn, ?_⟩) he hpl
  exact run_fnRS F (hr.mono hk) (passAt tk σ) I1 r q
theorem pd_callR0 {x : Str} {k j : Nat} (c : ClR X.prog X.w X.K X.mg X.base x k φ) (tk : Takes X W) (hr : Room j X.A) (hk : k ≤ j) (hg : Gl X x) (hdb : (x == ("__debug__" : Str)) = false := by decide) : PED X W (.Call (.Name x p) [] [] pos) (eCallR φ aNil) [] := by
  obtain ⟨f, F, hm, kp⟩ := c.ex
  refine ⟨tCallR (spR X.K φ) (WE W) tNil, ⟨fun pins s σ H Q I h => ?_⟩, ted_callR tad_nil⟩
  refine wpAny_Call_Name_kw (ld_glob I hg hm ?_ hdb)
  exact PySem.W.callWith_K0 I.kIn kp (run_fnRS (us := []) (vs := []) F (hr.mono hk) (passAt tk σ) I .nil h)
end
/-! ### raise -/
def sRaise (C : Addr) (fns : List Str) (g : List Dt → Bool) (f : Env → Out (List Dt)) : Env → SOut := fun ρ => stE (f ρ) ρ fun ds => if ds.length = fns.length ∧ Dt.pures ds = true ∧ g ds = true then .exc ⟨C, fns.zip ds⟩ ρ else .bad
/-- what is wished of the arguments as data tells what is wished of their values -/
def OkV (K : PySem.W.Frag) (g : List Dt → Bool) (ok : List V → Prop) : Prop := ∀ H A ds vs, Reps K H A ds vs → g ds = true → ok vs
theorem zip_fst {α : Type} : ∀ {fs : List Str} {ds : List α}, ds.length = fs.length → (fs.zip ds).map (·.1) = fs
  | [], [], _ => rfl
  | f :: fs, d :: ds, h => by
    show f :: (fs.zip ds).map (·.1) = f :: fs
    rw [zip_fst (by simpa using h)]
theorem zip_snd {α : Type} : ∀ {fs : List Str} {ds : List α}, ds.length = fs.length → (fs.zip ds).map (·.2) = ds
  | [], [], _ => rfl
  | f :: fs, d :: ds, h => by
    show d :: (fs.zip ds).map (·.2) = d :: ds
    rw [zip_snd (by simpa using h)]
section
variable {K : PySem.W.Frag} {W : WX} {H0 H H1 : Hp} {A0 : Ad} {ρ : Env} {σ : L2.St} {lk la lb : List Nat} {α : Type}
theorem tsd_raise {C : Addr} {fns : List Str} {g : List Dt → Bool} {ok : List V → Prop} {ta : TA} {f : Env → Out (List Dt)} (hok : OkV K g ok) (ha : TAD K W ta f lk) : TSD K W (fun _ σ H => tMkX C fns ok ta σ H fun cls d H' => W cls d σ H') (sRaise C fns g f) := by
  intro H0 A0 ρ σ H D s h
  refine ha _ _ _ _ _ _ s (PostS.st s h fun ds _ h1 vs H1 s1 r1 => ?_)
  split at h1
  · rename_i hc
    obtain ⟨hl, hp, hg⟩ := hc
    have lv : vs.length = fns.length := r1.length.trans hl
    have rN : Reps K H1 NoA ds vs := Reps.anti (fun _ z => False.elim z) r1
    refine ⟨lv, hok _ _ _ _ r1 hg, fun e => ?_, fun ne d hd => ?_⟩
    · subst e
      have e1 : ds = [] := List.length_eq_zero_iff.mp hl
      subst e1
      exact h1 σ H1 _ _ (s.grow s1) ⟨rfl, rfl, rfl⟩
    · refine h1 σ _ _ _ (s.grow (s1.trans (Same.new hd))) ⟨rfl, ?_, _, upd_same, ?_, ?_⟩
      · show Dt.pures ((fns.zip ds).map (·.2)) = true
        rw [zip_snd hl]
        exact hp
      · show (fns.zip vs).map (·.1) = (fns.zip ds).map (·.1)
        rw [zip_fst lv, zip_fst hl]
      · show Reps K _ NoA ((fns.zip ds).map (·.2)) ((fns.zip vs).map (·.2))
        rw [zip_snd lv, zip_snd hl]
        exact rN.same (Same.new hd)
  · exact False.elim h1
end
section
variable {X : Cx} {W : WX} {e : Expr} {es : List Expr} {fs : Env → Out (List Dt)} {lk : List Nat} {p pos pos2 : Pos} {C : Addr} {fns : List Str} {g : List Dt → Bool} {ok : List V → Prop}
theorem s_raise {x : Str} {k : Nat} (hc : X.calm = true) (T : MkC X x C fns ok) (hok : OkV X.K g ok) (tk : Takes X W) (hr : Room k X.A) (hk : 2 ≤ k) (ha : PAD X W (e :: es) fs lk) (hg : Gl X x) (hd : (x == ("__debug__" : Str)) = false := by decide)
    (he : starEach (e :: es) X.env = (false, eval e X.env) :: starEach es X.env := by rfl) (hpl : (backTo pos (starEach es X.env)).any (·.1) = false := by rfl) : PSD X W (.Raise (some (.Call (.Name x p) (e :: es) [] pos)) none pos2) (sRaise C fns g fs) := by
  obtain ⟨ta, pa, da⟩ := ha
  exact ⟨_, ps_raise hc tk (pmk_x T hr hk pa hg hd he hpl), tsd_raise hok da⟩
theorem s_raise0 {x : Str} {k : Nat} (hc : X.calm = true) (T : MkC X x C fns ok) (hok : OkV X.K g ok) (tk : Takes X W) (hr : Room k X.A) (hk : 2 ≤ k) (hg : Gl X x) (hd : (x == ("__debug__" : Str)) = false := by decide) : PSD X W (.Raise (some (.Call (.Name x p) [] [] pos)) none pos2) (sRaise C fns g aNil) :=
  ⟨_, ps_raise hc tk (pmk_x0 T hr hk hg hd), tsd_raise hok tad_nil⟩
end
/-! ### try -/
/-- the canonical reading of statements of meaning g -/
def cS (K : PySem.W.Frag) (W : WX) (g : Env → SOut) : TS := fun D σ H => ∃ (H0 : Hp) (A0 : Ad) (ρ : Env), StOk K H0 A0 H ρ σ ∧ PostS K W H0 A0 (g ρ) D
theorem PSsD.can {X : Cx} {W : WX} {ss : List Stmt} {g : Env → SOut} (h : PSsD X W ss g) : PSs X ss (cS X.K W g) := by
  obtain ⟨ts, hp, hd⟩ := h
  exact ⟨fun pins s σ H D I ⟨H0, A0, ρ, so, po⟩ => hp.run pins s σ H D I (hd H0 A0 ρ σ H D so po)⟩
open Classical in
/-- what a suite gives wherever the exception lies -/
noncomputable def catchX (x : Exn) (run : Addr → Option Addr → SOut) : SOut := if ∃ r, ∀ a d, (d = none → x.fs = []) → run a d = r then run 0 (if x.fs = [] then none else some 0) else .bad
theorem catchX_of {x : Exn} {run : Addr → Option Addr → SOut} {r : SOut} (h : ∀ a d, (d = none → x.fs = []) → run a d = r) : catchX x run = r := by
  unfold catchX
  rw [if_pos ⟨r, h⟩]
  refine h _ _ fun e => ?_
  split at e
  · assumption
  · cases e
theorem catchX_eq {x : Exn} {run : Addr → Option Addr → SOut} {r : SOut} (h : ∀ a d, run a d = r) : catchX x run = r := catchX_of fun a d _ => h a d
theorem catchX_at {x : Exn} {run : Addr → Option Addr → SOut} (hb : catchX x run ≠ .bad) (a : Addr) (d : Option Addr) (hd : d = none → x.fs = []) : run a d = catchX x run := by
  unfold catchX at hb ⊢
  split
  · rename_i h
    obtain ⟨r, h⟩ := h
    rw [h a d hd, h]
    intro e
    split at e
    · assumption
    · cases e
  · rename_i h
    rw [if_neg h] at hb
    exact absurd rfl hb
def unset (i : Nat) : SOut → SOut
  | .ok (.rt d) _ => .ok (.rt d) []
  | .ok f ρ => .ok f (ρ.set i none)
  | _ => .bad
def noSx : SOut → SOut
  | .ok f ρ => .ok f ρ
  | _ => .bad
@[simp] theorem unset_rt (i : Nat) (d : Dt) (ρ : Env) : unset i (.ok (.rt d) ρ) = .ok (.rt d) [] := rfl
@[simp] theorem unset_nx (i : Nat) (ρ : Env) : unset i (.ok .nx ρ) = .ok .nx (ρ.set i none) := rfl
@[simp] theorem unset_bk (i : Nat) (ρ : Env) : unset i (.ok .bk ρ) = .ok .bk (ρ.set i none) := rfl
@[simp] theorem unset_ct (i : Nat) (ρ : Env) : unset i (.ok .ct ρ) = .ok .ct (ρ.set i none) := rfl
@[simp] theorem noSx_ok (f : Fl) (ρ : Env) : noSx (.ok f ρ) = .ok f ρ := rfl
def xAt (x : Exn) (a : Addr) (d : Option Addr) : Dt := .exn a d x.cls (x.fs.map (·.1)) (x.fs.map (·.2))
/-- try: g / except c as (slot i): h -/
noncomputable def sTryAs (K : PySem.W.Frag) (Ds : List Addr) (c : Value) (i : Nat) (g : Env → SOut) (h : Addr → Option Addr → Addr → Env → SOut) : Env → SOut := fun ρ => match g ρ with
  | .exc x ρ1 => (match PySem.W.exmOne K (.ref x.cls) c with
    | some true => if x.cls ∈ Ds then catchX x fun a d => unset i (h a d x.cls (ρ1.set i (some (.sh (xAt x a d))))) else .bad
    | some false => .exc x ρ1
    | none => .bad)
  | o => o
noncomputable def sTryOnly (K : PySem.W.Frag) (c : Value) (g : Env → SOut) (h : Env → SOut) : Env → SOut := fun ρ => match g ρ with
  | .exc x ρ1 => (match PySem.W.exmOne K (.ref x.cls) c with
    | some true => noSx (h ρ1)
    | some false => .exc x ρ1
    | none => .bad)
  | o => o
section
variable {K : PySem.W.Frag} {W : WX} {H0 H H1 : Hp} {A0 : Ad} {ρ : Env} {σ : L2.St} {lk la lb : List Nat}
theorem StOk.gone (s : StOk K H0 A0 H ρ σ) (i : Nat) : StOk K H0 A0 H (ρ.set i none) (σ.set i none) := s.wiped [i]
theorem xAt_rep {x : Exn} {a : Addr} {d : Option Addr} {A : Ad} (hA : ∀ a, A a → Mut (H a)) (h : ExOk K H x (.ref x.cls) d) : Rep K H A (xAt x a d) (.ref a) := by
  obtain ⟨_, hp, h⟩ := h
  unfold xAt Rep
  cases d with
  | none =>
    have e : x.fs = [] := h
    refine ⟨[], rfl, .inl ⟨rfl, rfl⟩, by rw [e]; rfl, ?_⟩
    rw [e]
    exact Reps.nil
  | some d =>
    obtain ⟨fs, h1, h2, h3⟩ := h
    refine ⟨fs, rfl, .inr ⟨d, rfl, fun z => ?_, h1⟩, h2, Reps.pure hA _ _ hp h3⟩
    have q := hA d z
    rw [h1] at q
    exact q
theorem tsd_tryAs {Ds : List Addr} {c : Value} {i : Nat} {g : Env → SOut} {h : Addr → Option Addr → Addr → Env → SOut} :
    TSD K W (fun D σ H => cS K (wAs K c i (fun a cls d D σ H => ∃ C : Addr, cls = .ref C ∧ C ∈ Ds ∧ cS K W0 (h a d C) D σ H) W D) g D σ H) (sTryAs K Ds c i g h) := by
  intro H0 A0 ρ σ H D s hq
  refine ⟨H0, A0, ρ, s, ?_⟩
  unfold sTryAs at hq
  cases e : g ρ with
  | ok f ρ1 =>
    rw [e] at hq
    cases f <;> exact hq
  | bad => rw [e] at hq; exact hq
  | exc x ρ1 =>
    rw [e] at hq
    intro σ1 H1 cv od s1 ex
    obtain ⟨rfl, ex2⟩ := id ex
    simp only at hq
    cases em : PySem.W.exmOne K (.ref x.cls) c with
    | none => rw [em] at hq; exact False.elim hq
    | some b =>
      rw [em] at hq
      cases b with
      | false => exact ⟨false, em, fun z => Bool.noConfusion z, fun _ => hq σ1 H1 _ od s1 ex⟩
      | true =>
        simp only at hq
        by_cases hD : x.cls ∈ Ds
        case neg => rw [if_neg hD] at hq; exact False.elim hq
        rw [if_pos hD] at hq
        refine ⟨true, em, fun _ a na => ⟨x.cls, rfl, hD, H0, A0, ρ1.set i (some (.sh (xAt x a od))), s1.put (xAt_rep (fun a z => s1.avMut z) ex), ?_⟩, fun z => Bool.noConfusion z⟩
        have hb : catchX x (fun a d => unset i (h a d x.cls (ρ1.set i (some (.sh (xAt x a d)))))) ≠ .bad := fun z => by
          rw [z] at hq
          exact hq
        have ea := catchX_at hb a od (fun z => by
          subst z
          exact ex2.2)
        rw [← ea] at hq
        cases eo : h a od x.cls (ρ1.set i (some (.sh (xAt x a od)))) with
        | ok f ρ2 =>
          rw [eo] at hq
          cases f with
          | nx => exact fun σ' H' s' => hq _ _ (s'.gone i)
          | bk => exact fun σ' H' s' => hq _ _ (s'.gone i)
          | ct => exact fun σ' H' s' => hq _ _ (s'.gone i)
          | rt d => exact hq
        | exc y ρ2 => rw [eo] at hq; exact False.elim hq
        | bad => rw [eo] at hq; exact False.elim hq
theorem tsd_tryOnly {c : Value} {g h : Env → SOut} :
    TSD K W (fun D σ H => cS K (wOnly K c (fun a cls d D σ H => cS K W0 h D σ H) W D) g D σ H) (sTryOnly K c g h) := by
  intro H0 A0 ρ σ H D s hq
  refine ⟨H0, A0, ρ, s, ?_⟩
  unfold sTryOnly at hq
  cases e : g ρ with
  | ok f ρ1 =>
    rw [e] at hq
    cases f <;> exact hq
  | bad => rw [e] at hq; exact hq
  | exc x ρ1 =>
    rw [e] at hq
    intro σ1 H1 cv od s1 ex
    obtain ⟨rfl, ex2⟩ := id ex
    simp only at hq
    cases em : PySem.W.exmOne K (.ref x.cls) c with
    | none => rw [em] at hq; exact False.elim hq
    | some b =>
      rw [em] at hq
      cases b with
      | false => exact ⟨false, em, fun z => Bool.noConfusion z, fun _ => hq σ1 H1 _ od s1 ex⟩
      | true =>
        refine ⟨true, em, fun _ a na => ⟨H0, A0, ρ1, s1, ?_⟩, fun z => Bool.noConfusion z⟩
        simp only at hq
        cases eo : h ρ1 with
        | ok f ρ2 =>
          rw [eo] at hq
          cases f <;> exact hq
        | exc y ρ2 => rw [eo] at hq; exact False.elim hq
        | bad => rw [eo] at hq; exact False.elim hq
end
section
variable {X : Cx} {W : WX} {x n : Str} {c : Value} {i : Nat} {body suite : List Stmt} {b₀ : Stmt} {np pos pos' : Pos} {g : Env → SOut}
theorem s_tryAs {h : Addr → Option Addr → Addr → Env → SOut} (i : Nat) (Ds : List Addr) (hs : X.stack = X.env :: X.outer) (hf : X.env.frame = some X.env.locals) (hN : X.N.Nodup) (hc : Names X x c) (tk : Takes X W)
    (hb : ∀ (W : WX) (pn : List (Addr × Obj)) (xe : Value → Shared → Prop), Takes (X.tr pn xe) W → PassesOwn (model X.prog X.w) X.A X.env xe → PSsD (X.tr pn xe) W body g)
    (hsu : ∀ (a : Addr) (oe : Obj) (C : Addr) (d : Option Addr) (pn : List (Addr × Obj)), C ∈ Ds → Zc (.ref C) d oe → (∃ vs, oe.data = .fields vs) → PSsD (X.suite a ((a, oe) :: pn)) W0 (b₀ :: suite) (h a d C)) (hi : X.N[i]? = some n := by rfl) (hln : X.env.kindOf n = some .local := by rfl) :
    PSD X W (.Try body [.ExceptHandler (some (.Name x np)) (some n) (b₀ :: suite) pos'] [] [] pos) (sTryAs X.K Ds c i g h) :=
  ⟨_, ps_try_as (tb := fun W => cS X.K W g) hs hf hN hi hln hc tk (fun W pn xe tk hp => (hb W pn xe tk hp).can) fun a oe cls d pn hz hfl => ⟨fun pins s σ H D I ⟨C, e, hD, hq⟩ => by
    subst e
    exact (hsu a oe C d pn hD hz hfl).can.run pins s σ H D I hq⟩, tsd_tryAs⟩
theorem s_tryOnly {h : Env → SOut} (hs : X.stack = X.env :: X.outer) (hf : X.env.frame = some X.env.locals) (hc : Names X x c) (tk : Takes X W)
    (hb : ∀ (W : WX) (pn : List (Addr × Obj)) (xe : Value → Shared → Prop), Takes (X.tr pn xe) W → PassesOwn (model X.prog X.w) X.A X.env xe → PSsD (X.tr pn xe) W body g)
    (hsu : ∀ (a : Addr) (oe : Obj) (C : Value) (d : Option Addr) (pn : List (Addr × Obj)), Zc C d oe → (∃ vs, oe.data = .fields vs) → PSsD (X.suite a ((a, oe) :: pn)) W0 (b₀ :: suite) h) :
    PSD X W (.Try body [.ExceptHandler (some (.Name x np)) none (b₀ :: suite) pos'] [] [] pos) (sTryOnly X.K c g h) :=
  ⟨_, ps_try_only (tb := fun W => cS X.K W g) hs hf hc tk (fun W pn xe tk hp => (hb W pn xe tk hp).can) fun a oe cls d pn hz hfl => ⟨fun pins s σ H D I hq => (hsu a oe cls d pn hz hfl).can.run pins s σ H D I hq⟩, tsd_tryOnly⟩
end
/-! ### in a suite: isinstance(e, C), e.f -/
def gIsX (K : PySem.W.Frag) (D a : Addr) (od : Option Addr) : List Dt → Option Dt
  | [.exn b d C _ _, c] => if b = a ∧ d = od ∧ C = D then (match c with
    | .cls C' => (PySem.W.kitOne K (.ref D) (.ref C')).map fun b => .bl b
    | .ty n => (PySem.W.kitOne K (.ref D) (.type n)).map fun b => .bl b
    | _ => none) else none
  | _ => none
def gXf (D a : Addr) (od : Option Addr) (f : Str) : Dt → Option Dt
  | .exn b d C ns ds => if b = a ∧ d = od ∧ C = D then (ns.zip ds).lookup f else none
  | _ => none
section
variable {K : PySem.W.Frag} {W : WX} {H0 H H1 : Hp} {A0 A : Ad} {ρ : Env} {σ : L2.St} {lk la lb : List Nat}
theorem cav_isX {D a : Addr} {od : Option Addr} : CaV K (rIsX K D a od) (gIsX K D a od) := by
  intro H A ds d vs Q ha r e q
  unfold gIsX at e
  split at e
  · rename_i b d' C ns fs c
    split at e
    case isFalse => cases e
    rename_i hc
    obtain ⟨rfl, rfl, rfl⟩ := hc
    obtain ⟨v, u, rfl, r1, r2⟩ := reps2 r
    unfold Rep at r1
    obtain ⟨xs, rfl, h1, _⟩ := r1
    have hdd : ∀ d1, d' = some d1 → ∃ fs, H d1 = some (.xd fs) := fun d1 e1 => by
      rcases h1 with ⟨e2, _⟩ | ⟨d2, e2, _, h2⟩
      · rw [e1] at e2; cases e2
      · rw [e1] at e2
        cases e2
        exact ⟨_, h2⟩
    split at e
    · rename_i C'
      have e2 : u = .ref C' := r2
      subst e2
      cases hk : PySem.W.kitOne K (.ref C) (.ref C') with
      | none => rw [hk] at e; cases e
      | some k =>
        rw [hk] at e
        cases e
        exact ⟨.ref C', .ref C', k, rfl, hdd, fun _ z => z, hk, RE.now q rfl⟩
    · rename_i n
      have e2 : u = .ty n := r2
      subst e2
      cases hk : PySem.W.kitOne K (.ref C) (.type n) with
      | none => rw [hk] at e; cases e
      | some k =>
        rw [hk] at e
        cases e
        exact ⟨.ty n, .type n, k, rfl, hdd, fun _ z => z, hk, RE.now q rfl⟩
    · cases e
  · cases e
theorem gIsX_scal {D a : Addr} {od : Option Addr} : ∀ ds d, gIsX K D a od ds = some d → d.scal = true := fun ds d e => by
  unfold gIsX at e
  split at e
  · split at e
    case isFalse => cases e
    split at e
    · rename_i C'
      cases hk : PySem.W.kitOne K (.ref D) (.ref C') with
      | none => rw [hk] at e; cases e
      | some k => rw [hk] at e; cases e; rfl
    · rename_i n
      cases hk : PySem.W.kitOne K (.ref D) (.type n) with
      | none => rw [hk] at e; cases e
      | some k => rw [hk] at e; cases e; rfl
    · cases e
  · cases e
theorem lookup_rep {f : Str} {d : Dt} : ∀ {fs : List (Str × V)} {ds : List Dt}, Reps K H A ds (fs.map (·.2)) → ((fs.map (·.1)).zip ds).lookup f = some d → ∃ v, fs.lookup f = some v ∧ Rep K H A d v
  | [], ds, r, e => by cases e
  | (g, v) :: fs, [], r, e => by cases e
  | (g, v) :: fs, d' :: ds, r, e => by
    unfold Reps at r
    obtain ⟨v', r', e1, r1, r2⟩ := r
    cases e1
    have e2 : List.lookup f ((g, d') :: (fs.map (·.1)).zip ds) = some d := e
    rw [List.lookup] at e2 ⊢
    cases hb : f == g with
    | true =>
      rw [hb] at e2
      cases e2
      exact ⟨_, rfl, r1⟩
    | false =>
      rw [hb] at e2
      exact lookup_rep r2 e2
theorem ted_xf {D a : Addr} {od : Option Addr} {f : Str} {te : TE} {fe : Env → Out Dt} (ha : TED K W te fe la) : TED K W (tXf a (.ref D) od D f te) (e1 fe (gXf D a od f)) la := by
  intro H0 A0 ρ σ H Q s h
  refine ha _ _ _ _ _ _ s (h.seq fun d _ h1 v1 H1 s1 r1 => ?_)
  obtain ⟨d', e, q⟩ := ofO_seq h1
  unfold gXf at e
  split at e
  · rename_i b d2 C ns fs
    split at e
    case isFalse => cases e
    rename_i hc
    obtain ⟨rfl, rfl, rfl⟩ := hc
    unfold Rep at r1
    obtain ⟨xs, rfl, hx1, h2, h3⟩ := r1
    subst h2
    obtain ⟨v, hv, rv⟩ := lookup_rep h3 e
    rcases hx1 with ⟨_, e2⟩ | ⟨dd, e2, _, h4⟩
    · subst e2
      cases hv
    · exact ⟨rfl, rfl, dd, xs, v, e2, h4, hv, q _ _ s1 rv⟩
  · cases e
end
section
variable {X : Cx} {W : WX} {e e2 : Expr} {fs : Env → Out (List Dt)} {fe : Env → Out Dt} {lk : List Nat} {pos p : Pos} {a D : Addr} {oe : Obj} {d : Option Addr} {pn : List (Addr × Obj)}
theorem pd_isX (hz : Zc (.ref D) d oe) (hf : ∃ vs, oe.data = .fields vs) (C : ExcC X.K D) (hg : Gl X "isinstance") (hm : X.mg "isinstance" = none) (ha : PAD (X.suite a ((a, oe) :: pn)) W [e, e2] fs lk) (he : starEach [e, e2] X.env = (false, eval e X.env) :: starEach [e2] X.env := by rfl) (hpl : (backTo pos (starEach [e2] X.env)).any (·.1) = false := by rfl) :
    PED (X.suite a ((a, oe) :: pn)) W (.Call (.Name "isinstance" p) [e, e2] [] pos) (eB (gIsX X.K D a d) fs) [] := by
  obtain ⟨ta, pa, da⟩ := ha
  exact ⟨_, pe_callB (X := X.suite a ((a, oe) :: pn)) (call_isX C hz hf) hg hm PyProof.Rows.boot_isinstance pa (by decide) (by decide) he hpl, ted_bs cav_isX gIsX_scal da⟩
theorem pd_xf {f : Str} (hz : Zc (.ref D) d oe) (hf : ∃ vs, oe.data = .fields vs) (C : XfC X.K D) (hno : PySem.W.findIn X.K (.ref D) f = some none) (ha : PED (X.suite a ((a, oe) :: pn)) W e fe lk) (hb : attributeBase e f X.env (eval e X.env) = eval e X.env := by rfl) :
    PED (X.suite a ((a, oe) :: pn)) W (.Attribute e f pos) (e1 fe (gXf D a d f)) lk := by
  obtain ⟨te, pe, de⟩ := ha
  exact ⟨_, pe_xf C hno hz hf pe hb, ted_xf de⟩
end
end FD

namespace FD
open PySem L2 PyProof.Rows PySem.Spec
/-! ### list comprehensions: the derivation -/
def cE (K : PySem.W.Frag) (W : WX) (f : Env → Out Dt) (lk : List Nat) : TE := fun σ H Q => ∃ (H0 : Hp) (A0 : Ad) (ρ : Env), StOk K H0 A0 H ρ σ ∧ PostX K W H σ (f ρ) (RE K (Av A0 ρ σ lk) H Q)
def cT (K : PySem.W.Frag) (W : WX) (f : Env → Out Bool) : TT := fun σ H Q => ∃ (H0 : Hp) (A0 : Ad) (ρ : Env), StOk K H0 A0 H ρ σ ∧ PostX K W H σ (f ρ) (RT H Q)
def cG (K : PySem.W.Frag) (u : Dt → Env → Option Env) (S : List Nat) : TG := fun v σ H Q => ∃ (H0 : Hp) (A0 : Ad) (ρ ρ' : Env) (d : Dt), StOk K H0 A0 H ρ σ ∧ Rep K H (Av A0 ρ σ []) d v ∧ u d ρ = some ρ' ∧ (∀ σ', StOk K H0 A0 H ρ' σ' → (∀ a, Av A0 ρ' σ' [] a → Av A0 ρ σ [] a) → Out1 S ρ ρ' σ σ' → Q σ' H)
/-- the conditions of a block -/
def PTsD (X : Cx) (W : WX) (es : List Expr) (f : Env → Out Bool) (lk : List Nat) : Prop := ∃ tt, PTs X es tt ∧ TTD X.K W tt f lk
section
variable {X : Cx} {W : WX} {e : Expr} {es : List Expr} {f : Env → Out Dt} {t : Env → Out Bool} {u : Dt → Env → Option Env} {S lk lt le : List Nat}
theorem PED.can (h : PED X W e f lk) : PE X e (cE X.K W f lk) := by
  obtain ⟨te, pe, de⟩ := h
  exact ⟨fun pins s σ H Q I ⟨H0, A0, ρ, so, po⟩ => pe.run pins s σ H Q I (de H0 A0 ρ σ H Q so po)⟩
theorem PTsD.can (h : PTsD X W es t lk) : PTs X es (cT X.K W t) := by
  obtain ⟨te, pe, de⟩ := h
  exact ⟨fun pins s σ H Q I ⟨H0, A0, ρ, so, po⟩ => pe.run pins s σ H Q I (de H0 A0 ρ σ H Q so po)⟩
theorem PGD.can (h : PGD X e u S) : PG X e (cG X.K u S) := by
  obtain ⟨g, pg, dg⟩ := h
  refine ⟨fun pins s σ H v u' Q I r ⟨H0, A0, ρ, ρ', d, so, rr, eu, q⟩ => ?_⟩
  exact pg.run pins s σ H v u' Q I r (dg H0 A0 ρ ρ' σ H d v Q so rr eu q)
def tYesD : Env → Out Bool := fun _ => .ok true
theorem ts_nil : PTsD X W [] tYesD [] := ⟨_, pts_nil, fun H0 A0 ρ σ H Q s h => h H (Same.refl H)⟩
theorem ts_one (h : PTD X W e t lk) : PTsD X W [e] t lk := by
  obtain ⟨te, pe, de⟩ := h
  exact ⟨_, pts_one pe, de⟩
theorem pl_lc {elt tg iter : Expr} {ifs : List Expr} {scope : Scope} {pos : Pos} {src : Env → Out (List Dt)} (own : List (Str × Nat)) (hc : X.calm = true) (hN : X.N.Nodup) (hi : PID X W tg iter src lk)
    (hg : ∀ (s : Shared) (H : Hp) (C : Addr) (cl : List (Str × Addr)) (fp : List Addr), PGD (X.blk s H scope (compEnvC scope cl C X.env) fp) tg u S)
    (ht : ∀ (s : Shared) (H : Hp) (C : Addr) (cl : List (Str × Addr)) (fp : List Addr), PTsD (X.blk s H scope (compEnvC scope cl C X.env) fp) W0 ifs t lt)
    (he : ∀ (s : Shared) (H : Hp) (C : Addr) (cl : List (Str × Addr)) (fp : List Addr), PED (X.blk s H scope (compEnvC scope cl C X.env) fp) W0 elt f le)
    (ok : BlkOk X.N X.env.scope scope own := by exact blkOk_by (by decide +kernel)) (hS : ∀ i ∈ S, i ∈ own.map (·.2) := by decide) (hs : ∀ x, foldedSetIterable iter X.env x = pure x := by intro _; rfl) :
    PLD X W (.ListComp elt [⟨tg, iter, ifs, 0⟩] scope pos) (lLc u (own.map (·.2)) t f src lk) (lk ++ (le ++ own.map (·.2))) := by
  obtain ⟨wi, pi, di⟩ := hi
  refine ⟨_, pe_lc (g := cG X.K u S) (tt := cT X.K W0 t) (te := cE X.K W0 f le) hc hN pi ok (fun s H C cl fp => (hg s H C cl fp).can) (fun s H C cl fp => (ht s H C cl fp).can) (fun s H C cl fp => (he s H C cl fp).can) hs, ?_⟩
  exact tld_lc di (fun H0 A0 ρ ρ' σ H d v Q s r e q => ⟨H0, A0, ρ, ρ', d, s, r, e, q⟩) hS (lt := lt) (fun H0 A0 ρ σ H Q s h => ⟨H0, A0, ρ, s, h⟩) (fun H0 A0 ρ σ H Q s h => ⟨H0, A0, ρ, s, h⟩)
theorem s_setLc {elt tg iter : Expr} {ifs : List Expr} {scope : Scope} {pos py spos : Pos} {src : Env → Out (List Dt)} {y : Str} (i : Nat) (own : List (Str × Nat)) (hc : X.calm = true) (hN : X.N.Nodup) (hi : PID X W tg iter src lk)
    (hg : ∀ (s : Shared) (H : Hp) (C : Addr) (cl : List (Str × Addr)) (fp : List Addr), PGD (X.blk s H scope (compEnvC scope cl C X.env) fp) tg u S)
    (ht : ∀ (s : Shared) (H : Hp) (C : Addr) (cl : List (Str × Addr)) (fp : List Addr), PTsD (X.blk s H scope (compEnvC scope cl C X.env) fp) W0 ifs t lt)
    (he : ∀ (s : Shared) (H : Hp) (C : Addr) (cl : List (Str × Addr)) (fp : List Addr), PED (X.blk s H scope (compEnvC scope cl C X.env) fp) W0 elt f le)
    (hy : X.N[i]? = some y := by rfl) (hyl : X.env.scope.names.lookup y = some .local := by rfl) (hsw : swapsWith (.ListComp elt [⟨tg, iter, ifs, 0⟩] scope pos) (some (.Name y py)) spos.line X.env = pure true := by exact sw_true rfl rfl rfl rfl)
    (ok : BlkOk X.N X.env.scope scope own := by exact blkOk_by (by decide +kernel)) (hS : ∀ i ∈ S, i ∈ own.map (·.2) := by decide) (hs : ∀ x, foldedSetIterable iter X.env x = pure x := by intro _; rfl) :
    PSD X W (.Assign [.Name y py] (.ListComp elt [⟨tg, iter, ifs, 0⟩] scope pos) spos) (sSetL i (lLc u (own.map (·.2)) t f src lk) (lk ++ (le ++ own.map (·.2)))) := by
  obtain ⟨wi, pi, di⟩ := hi
  refine ⟨_, ps_setLc (g := cG X.K u S) (tt := cT X.K W0 t) (te := cE X.K W0 f le) hc hN hy hyl hsw pi ok (fun s H C cl fp => (hg s H C cl fp).can) (fun s H C cl fp => (ht s H C cl fp).can) (fun s H C cl fp => (he s H C cl fp).can) hs, ?_⟩
  exact tsd_setL (tld_lc di (fun H0 A0 ρ ρ' σ H d v Q s r e q => ⟨H0, A0, ρ, ρ', d, s, r, e, q⟩) hS (lt := lt) (fun H0 A0 ρ σ H Q s h => ⟨H0, A0, ρ, s, h⟩) (fun H0 A0 ρ σ H Q s h => ⟨H0, A0, ρ, s, h⟩))
end
end FD

namespace FD
open PySem L2 PyProof.Rows PySem.Spec
/-! ### what the generated texts use -/
theorem bt_int : bootBuiltins "int" = some (.type "int") := by first | rfl | kernel_rfl
theorem bt_bool : bootBuiltins "bool" = some (.type "bool") := by first | rfl | kernel_rfl
theorem bt_str : bootBuiltins "str" = some (.type "str") := by first | rfl | kernel_rfl
theorem bt_tuple : bootBuiltins "tuple" = some (.type "tuple") := by first | rfl | kernel_rfl
theorem bt_list : bootBuiltins "list" = some (.type "list") := by first | rfl | kernel_rfl
theorem bt_dict : bootBuiltins "dict" = some (.type "dict") := by first | rfl | kernel_rfl
theorem bt_ValueError : bootBuiltins "ValueError" = some (.type "ValueError") := by first | rfl | kernel_rfl
open PySem.W in
theorem kit_ne {K : PySem.W.Frag} {t : Value} {C : Addr} {b : Bool} (hne : (t == Value.ref C) = false) (h1 : isClsIn K C = true) (h2 : typeIn K (.ref C) = some (.type "type")) (h3 : subIn K t (.ref C) = some b) : kitOne K t (.ref C) = some b := by
  unfold kitOne kitCls
  rw [hne, if_neg Bool.false_ne_true]
  have h1' : (clsIn K C).isSome = true := h1
  show (if ((clsIn K C).isSome && typeIn K (.ref C) == some (.type "type")) = true then subIn K t (.ref C) else none) = some b
  rw [h1', h2]
  exact h3
open PySem.W in
theorem kit_self {K : PySem.W.Frag} {t : Value} : kitOne K t t = some true := by
  unfold kitOne
  rw [if_pos (beq_self_eq_true t)]
open PySem.W in
theorem kit_typ {K : PySem.W.Frag} {C : Addr} {T : String} {b : Bool} (h1 : kitMeta T = true) (h3 : subIn K (.ref C) (.type T) = some b) : kitOne K (.ref C) (.type T) = some b := by
  have hne : (Value.ref C == Value.type T) = false := rfl
  unfold kitOne kitCls
  rw [hne, if_neg Bool.false_ne_true]
  show (if kitMeta T = true then _ else _) = _
  rw [if_pos h1]
  exact h3
open PySem.W in
theorem exm_of {K : PySem.W.Frag} {t : Value} {C : Addr} {b : Bool} (h0 : subIn K (.ref C) (.type "BaseException") = some true) (h1 : isClsIn K C = true) (h2 : typeIn K (.ref C) = some (.type "type")) (h3 : subIn K t (.ref C) = some b) : exmOne K t (.ref C) = some b := by
  unfold exmOne
  have e0 : (subIn K (.ref C) (.type "BaseException") == some true) = true := by rw [h0]; rfl
  rw [if_pos e0]
  unfold kitCls
  have h1' : (clsIn K C).isSome = true := h1
  show (if ((clsIn K C).isSome && typeIn K (.ref C) == some (.type "type")) = true then subIn K t (.ref C) else none) = some b
  rw [h1', h2]
  exact h3
theorem u64 {k : Nat} {A : Around} (r : Room k A) : A.units + 64 < cLine := by have := r.un; omega
section
variable {P : Program} {w : World} {K : PySem.W.Frag} {mg : Str → Option Value} {base : Heap}
theorem def_okD {x qual : Str} {params : Arguments} {body : List Stmt} {scope : Scope} {dvs : List V} {kws : List (Str × V)} {f : Addr} {fd : FuncData} {N ps : List Str} {k : Nat} {g : Env → SOut} (F : FunD K x qual params body scope dvs kws f fd) (S : FnScope N ps scope)
    (hb : ∀ (cdv : Value) (A : Around) (outer : List PySem.Env) (s : Shared) (H : Hp) (E : XK), Room k (A.deeper (envOfC qual scope s.heap.objs.size f cdv)) →
      PSsD (cxOf (L2.CX P w) P w K mg base N qual scope f cdv A outer s H E) (fun c d _ H' => E c d H') body g) :
    FnOk P w K mg base (L2.CX P w) (k + 1) f fd ps (spD K ps.length (runD N.length g)) := by
  refine F.ok S (fun vs H Q E h => ?_) (fun cdv A outer s H vs Q E hr h => ?_)
  · obtain ⟨ds, A, r, hl, _⟩ := h
    rw [r.length, hl]
  · obtain ⟨ds, A', r, hl, ha, h⟩ := h
    obtain ⟨ts, hp, hd⟩ := hb cdv A outer s H E hr
    refine ⟨ts, hp, ?_⟩
    refine hd H A' _ _ H _ (start_ok r ha) ?_
    unfold runD at h
    cases e : g (ds.map (fun d => some (Lo.sh d)) ++ List.replicate (N.length - ds.length) none) with
    | ok fl ρ =>
      rw [e] at h
      cases fl with
      | nx => exact fun σ H' s' => h .non H' s'.same rfl
      | rt d => exact fun v H' s' r' => h v H' s' r'
      | bk => exact h.elim
      | ct => exact h.elim
    | exc x ρ =>
      rw [e] at h
      exact fun σ H' c od s' r' => h c od H' s'.same r'
    | bad => rw [e] at h; exact h.elim
theorem binds_all {x qual : Str} {params : Arguments} {body : List Stmt} {scope : Scope} {f : Addr} {fd : FuncData} {ps : List Str} (F : FunD K x qual params body scope [] [] f fd)
    (h : ∀ (kV doc pm : Value) (an : Option Addr) (cdv ct : Value) (us : List Value), us.length = ps.length → bindArgs (PySem.W.fnOf x qual params body scope .none kV doc pm an cdv ct) ⟨us, []⟩ = pure (ps.zip us)) : Binds K fd ps [] := by
  obtain ⟨oc, od, dV, kV, doc, pm, an, cdv, ct, osl, rfl, lk, hcd, hD, _⟩ := F.ex
  rcases hD with ⟨_, rfl⟩ | ⟨z, _⟩
  · exact .all (h kV doc pm an cdv ct)
  · exact absurd rfl z
theorem cl_starD {x : Str} {params : Arguments} {body : List Stmt} {scope : Scope} {f : Addr} {fd : FuncData} {N ps : List Str} {pv : Str} {k : Nat} {g : Env → SOut} (F : FunD K x x params body scope [] [] f fd) (S : FnScope N (ps ++ [pv]) scope) (hm : mg x = some (.ref f))
    (hb : ∀ (kV doc pm : Value) (an : Option Addr) (cdv ct : Value) (us rest : List Value), us.length = ps.length → bindArgs (PySem.W.fnOf x x params body scope .none kV doc pm an cdv ct) ⟨us ++ rest, []⟩ = (newTuple rest >>= fun t => pure (ps.zip us ++ [(pv, t)])))
    (hbody : ∀ (cdv : Value) (A : Around) (outer : List PySem.Env) (s : Shared) (H : Hp) (E : XK), Room k (A.deeper (envOfC x scope s.heap.objs.size f cdv)) → PSsD (cxOf (L2.CX P w) P w K mg base N x scope f cdv A outer s H E) (fun c d _ H' => E c d H') body g) :
    ClR P w K mg base x (k + 1) (argS ps.length (runD N.length g)) := by
  obtain ⟨oc, od, dV, kV, doc, pm, an, cdv, ct, osl, rfl, lk, hcd, hD, _⟩ := F.ex
  rcases hD with ⟨_, rfl⟩ | ⟨z, _⟩
  · exact cl_star lk hcd S (hb kV doc pm an cdv ct) hm F.kp (hbody cdv)
  · exact absurd rfl z
/-- a def with one default, as it is called -/
theorem cl_ofD1 {x : Str} {f : Addr} {fd : FuncData} {ps : List Str} {k n : Nat} {φ : List Dt → Out Dt} {dv : V} {d : Dt} (F : FnOk P w K mg base (L2.CX P w) k f fd ps (spD K n φ)) (hm : mg x = some (.ref f)) (hk : PySem.W.keepIn K (.ref f) = true)
    (hb : ∃ ds, Vals [] ds ∧ Binds K fd ps ds) (hb1 : ∃ ds, Vals [dv] ds ∧ Binds K fd ps ds) (hd : ∀ H A, Rep K H A d dv) (hn : 0 < n) : ClR P w K mg base x k (argD n [d] φ) := by
  obtain ⟨d0, r0, b0⟩ := hb
  cases r0
  obtain ⟨d1, r1, b1⟩ := hb1
  cases r1 with
  | cons r rr =>
    cases rr
    exact cl_of1 F hm hk b0 b1 r hd hn
theorem ints_rep {K : PySem.W.Frag} {H : Hp} {A : Ad} : ∀ ns : List Int, Reps K H A (ns.map .int) (ns.map V.int)
  | [] => Reps.nil
  | _ :: ns => Reps.cons rfl (ints_rep ns)
/-- what a law promises -/
def spLaw (K : PySem.W.Frag) : Sp := fun vs H Q _ => ∃ (a : Addr) (ns : List Int), vs = [.ref a] ∧ ns.length ≤ 63 ∧ (∀ z ∈ ns, Builtin.Int.intBits z ≤ 1048576) ∧ Only H ∧ SqL K H a (ns.map V.int) ∧ ∀ H', Q (.bl true) H'
theorem law_imp {k : Nat} {f : Addr} {fd : FuncData} {ps : List Str} {φ : List Dt → Out Dt} (F : FnOk P w K mg base (L2.CX P w) k f fd ps (spD K 1 φ)) (h : ∀ ns : List Int, ns.length ≤ 63 → (∀ z ∈ ns, Builtin.Int.intBits z ≤ 1048576) → φ [.fls (ns.map .int)] = .ok (.bl true)) :
    FnOk P w K mg base (L2.CX P w) k f fd ps (spLaw K) := by
  refine F.imp fun vs H Q E hq => ?_
  obtain ⟨a, ns, rfl, hl, hb, hO, hS, q⟩ := hq
  refine ⟨[.fls (ns.map .int)], NoA, Reps.cons ?_ Reps.nil, rfl, fun _ z => False.elim z, ?_⟩
  · unfold Rep
    refine ⟨a, ns.map V.int, rfl, ?_, ints_rep ns⟩
    rcases hS with (hS | ⟨o, hS⟩) | hS
    · rcases hO a with e | ⟨o, xs, e⟩
      · rw [e] at hS; cases hS
      · rw [e] at hS; cases hS
    · exact .inl ⟨fun z => z, o, hS⟩
    · exact .inr hS
  · rw [h ns hl hb]
    intro v H' _ r
    have e : v = .bl true := r
    subst e
    exact q H'
theorem cx_none {H : Hp} {s : Shared} {e : Value} {s' : Shared} : L2.CX P w [] H s (fun _ _ _ => False) e s' → False := by
  rintro ⟨a, B, H', cls, d, ea, fl, hok, ub, na, os, ag, he⟩
  exact he
theorem walk_law {l : PySem.W.OpenLaw} {k : Nat} {q : Program} {loose : List Str} {XP : (Str → Option Value) → Heap → Prop} {YP : World → Heap → Prop} {d : DefRec} {K : Params → PySem.W.Frag} {x : Str} (hn : l.most = some 63) (hdf : d.params.defaults = []) (hr : Room k callerA)
    (hY : ∀ (w : World) (h : Heap), YP w h → (K w.params).In h)
    (F : ∀ (w : World) (mg : Str → Option Value) (fa : Addr) (h : Heap), (K w.params).In h → h.Ns mainGlobals mg → mg d.name = some (.ref fa) →
      ∃ fd : FuncData, (∀ (s : Shared) (u : Value), BindsTo s fd ⟨[u], []⟩ [(x, u)]) ∧ ∀ base : Heap, (K w.params).In base → base.Ns mainGlobals mg → FnOk l.prog w (K w.params) mg base (L2.CX l.prog w) k fa fd [x] (spLaw (K w.params))) :
    PySem.W.WalkO q loose XP YP l.row.toRowW d [] (fun f vs => PySem.call f vs) :=
  L2.walk_ofB (n := 63) (k := k) (x := x) (CX := fun w => L2.CX l.prog w) (sp := fun w => spLaw (K w.params)) hn (by decide) hdf hr hY F (fun _ _ a ns hl hb hO hS => ⟨a, ns, rfl, hl, hb, hO, hS, fun _ => rfl⟩) fun _ _ _ _ _ z => cx_none z
end
end FD

namespace FD
open PySem L2
/-! ### evaluating meanings: each applied to its slots -/
section
variable {f g : Env → SOut} {ρ : Env} {i : Nat} {lk : List Nat} {e fa fb fc : Env → Out Dt} {fl : Env → Out (List Dt)} {c ft fu : Env → Out Bool} {u : Dt → Env → Option Env}
theorem sSeq_ap : sSeq f g ρ = (f ρ).andThen g := rfl
theorem sNext_ap : sNext ρ = .ok .nx ρ := rfl
theorem sBrk_ap : sBrk ρ = .ok .bk ρ := rfl
theorem sCont_ap : sCont ρ = .ok .ct ρ := rfl
theorem sIf_ap : sIf c f g ρ = stE (c ρ) ρ fun b => if b = true then f ρ else g ρ := rfl
theorem sSet_ap : sSet i e lk ρ = stE (e ρ) ρ fun d => .ok .nx ((frzD d lk ρ).set i (some (.sh d))) := rfl
theorem sSetL_ap : sSetL i fl lk ρ = stE (fl ρ) ρ fun ds => .ok .nx ((frz lk ρ).set i (some (.ol ds))) := rfl
theorem sDrop_ap : sDrop e ρ = stE (e ρ) ρ fun _ => .ok .nx ρ := rfl
theorem sRet_ap : sRet e ρ = stE (e ρ) ρ fun d => .ok (.rt d) ρ := rfl
theorem sRetN_ap : sRetN ρ = .ok (.rt .non) ρ := rfl
theorem sFor_ap : sFor u fl lk g ρ = stE (fl ρ) ρ fun ds => forD u g ds (frz lk ρ) := rfl
theorem sAsg_ap : sAsg u e lk ρ = stE (e ρ) ρ fun d => match u d (frzD d lk ρ) with
  | some ρ' => .ok .nx ρ'
  | none => .bad := rfl
theorem sRaise_ap {C : Addr} {fns : List Str} {gg : List Dt → Bool} : sRaise C fns gg fl ρ = stE (fl ρ) ρ fun ds => if ds.length = fns.length ∧ Dt.pures ds = true ∧ gg ds = true then .exc ⟨C, fns.zip ds⟩ ρ else .bad := rfl
theorem sAppend_ap : sAppend i e lk ρ = match ρ[i]? with
  | some (some (.ol _)) => stE (e ρ) ρ fun d => (match (frzD d lk ρ)[i]? with
    | some (some (.ol ds)) => if ds.length < 16777216 then .ok .nx ((frzD d lk ρ).set i (some (.ol (ds ++ [d])))) else .bad
    | _ => .bad)
  | _ => .bad := rfl
theorem sSetIx_ap : sSetIx i fa e lk ρ = stE (e ρ) ρ fun d => match (frzD d lk ρ)[i]? with
  | some (some (.ol ds)) => stE (fa (frzD d lk ρ)) (frzD d lk ρ) fun k => (match k with
    | .int k => (match ixN ds.length k with
      | some j => .ok .nx ((frzD d lk ρ).set i (some (.ol (ds.set j d))))
      | none => .bad)
    | _ => .bad)
  | _ => .bad := rfl
theorem eC_ap {d : Dt} : eC d ρ = .ok d := rfl
theorem eVar_0 {l : Lo} : eVar 0 (some l :: ρ) = .ok l.d := rfl
theorem eVar_s {l : Option Lo} : eVar (i + 1) (l :: ρ) = eVar i ρ := rfl
theorem e1_ap {gg : Dt → Option Dt} : e1 fa gg ρ = (fa ρ).bind fun a => ofO (gg a) := rfl
theorem e2_ap {gg : Dt → Dt → Option Dt} : e2 fa fb gg ρ = (fa ρ).bind fun a => (fb ρ).bind fun b => ofO (gg a b) := rfl
theorem t1_ap {gg : Dt → Option Bool} : t1 fa gg ρ = (fa ρ).bind fun a => ofO (gg a) := rfl
theorem t2_ap {gg : Dt → Dt → Option Bool} : t2 fa fb gg ρ = (fa ρ).bind fun a => (fb ρ).bind fun b => ofO (gg a b) := rfl
theorem eT_ap : eT ft ρ = (ft ρ).bind fun b => .ok (.bl b) := rfl
theorem tAnd_ap : tAndD ft fu ρ = (ft ρ).bind fun b => if b = true then fu ρ else .ok false := rfl
theorem tOr_ap : tOrD ft fu ρ = (ft ρ).bind fun b => if b = true then .ok true else fu ρ := rfl
theorem tNot_ap : tNotD ft ρ = (ft ρ).bind fun b => .ok (!b) := rfl
theorem eIf_ap : eIfD ft fa fb ρ = (ft ρ).bind fun b => if b = true then fa ρ else fb ρ := rfl
theorem aNil_ap : aNil ρ = .ok [] := rfl
theorem aCons_ap : aCons fa fl ρ = (fa ρ).bind fun d => (fl ρ).bind fun ds => .ok (d :: ds) := rfl
theorem eTup_ap : eTup fl ρ = (fl ρ).bind fun ds => if ds.length ≤ 16777216 then .ok (.tup ds) else .bad := rfl
theorem lLst_ap : lLst fl ρ = (fl ρ).bind fun ds => if ds.length ≤ 16777216 then .ok ds else .bad := rfl
theorem eL_ap : eL fl ρ = (fl ρ).bind fun ds => .ok (.lst ds) := rfl
theorem eB_ap {gg : List Dt → Option Dt} : eB gg fl ρ = (fl ρ).bind fun ds => ofO (gg ds) := rfl
theorem eCallR_ap {φ : List Dt → Out Dt} : eCallR φ fl ρ = (fl ρ).bind φ := rfl
theorem eAnd_ap : eAnd fa fb ρ = (fa ρ).bind fun a => (ofO (blD a)).bind fun b => if b = true then fb ρ else .ok (.bl false) := rfl
theorem eOr_ap : eOr fa fb ρ = (fa ρ).bind fun a => (ofO (blD a)).bind fun b => if b = true then .ok (.bl true) else fb ρ := rfl
theorem eNot_ap : eNot fa ρ = (fa ρ).bind fun a => (ofO (blD a)).bind fun b => .ok (.bl (!b)) := rfl
theorem eChain_ap {g1 g2 : Dt → Dt → Option Bool} : eChain fa fb fc g1 g2 ρ = (fa ρ).bind fun a => (fb ρ).bind fun b => (ofO (g1 a b)).bind fun k => if k = true then (fc ρ).bind fun c => ofO (g2 b c) else .ok false := rfl
theorem oSeq_ap : oSeq fa ρ = (fa ρ).bind fun d => ofO d.seq := rfl
theorem oRange_ap : oRange fl ρ = (fl ρ).bind fun ds => ofO (oRng ds) := rfl
theorem oNone_ap : oNone ρ = .ok none := rfl
theorem oInt_ap : oInt e ρ = (e ρ).bind fun d => match d with
  | .int i => .ok (some i)
  | _ => .bad := rfl
theorem lCut_ap {f1 f2 : Env → Out (Option Int)} : lCut e f1 f2 ρ = (e ρ).bind fun a => (f1 ρ).bind fun lo => (f2 ρ).bind fun hi => ofO (gCutL a lo hi) := rfl
theorem gCutL_lst {ds : List Dt} {lo hi : Option Int} : gCutL (.lst ds) lo hi = some (cutD ds lo hi) := rfl
theorem gCutL_fls {ds : List Dt} {lo hi : Option Int} : gCutL (.fls ds) lo hi = some (cutD ds lo hi) := rfl
theorem frzD_int {z : Int} : frzD (.int z) lk ρ = ρ := rfl
theorem frzD_bl {z : Bool} : frzD (.bl z) lk ρ = ρ := rfl
theorem frzD_str {z : Str} : frzD (.str z) lk ρ = ρ := rfl
theorem frzD_non : frzD .non lk ρ = ρ := rfl
theorem frzD_lst {ds : List Dt} : frzD (.lst ds) lk ρ = frz lk ρ := rfl
theorem frzD_fls {ds : List Dt} : frzD (.fls ds) lk ρ = frz lk ρ := rfl
theorem frzD_nil {d : Dt} : frzD d [] ρ = ρ := by unfold frzD; split <;> rfl
theorem frzD_pure {d : Dt} (h : d.pure = true) : frzD d lk ρ = ρ := by unfold frzD; rw [if_pos h]
/-- from a body's end to the def's -/
def outS : SOut → Out Dt
  | .ok .nx _ => .ok .non
  | .ok (.rt d) _ => .ok d
  | .exc x _ => .exc x
  | _ => .bad
@[simp] theorem outS_nx : outS (.ok .nx ρ) = .ok .non := rfl
@[simp] theorem outS_rt {d : Dt} : outS (.ok (.rt d) ρ) = .ok d := rfl
@[simp] theorem outS_exc {x : Exn} : outS (.exc x ρ) = .exc x := rfl
theorem runD_eq {n : Nat} {ds : List Dt} : runD n g ds = outS (g (ds.map (fun d => some (Lo.sh d)) ++ List.replicate (n - ds.length) none)) := by
  unfold runD outS
  rfl
end
theorem frz1_0 {l : Lo} {ρ : Env} : frz1 (some l :: ρ) 0 = some (.sh l.d) :: ρ := rfl
theorem frz1_n {ρ : Env} : frz1 (none :: ρ) 0 = none :: ρ := rfl
theorem frz1_s {l : Option Lo} {ρ : Env} {i : Nat} : frz1 (l :: ρ) (i + 1) = l :: frz1 ρ i := by
  unfold frz1
  rw [List.getElem?_cons_succ]
  cases ρ[i]? with
  | none => rfl
  | some x => cases x <;> rfl
theorem uName_ap {i : Nat} {d : Dt} {ρ : Env} : uName i d ρ = some (ρ.set i (some (.sh d))) := rfl
theorem uTup_ap {us : List Dt → Env → Option Env} {ds : List Dt} {ρ : Env} : uTup us (.tup ds) ρ = us ds ρ := rfl
theorem uCons_ap {u : Dt → Env → Option Env} {us : List Dt → Env → Option Env} {d : Dt} {ds : List Dt} {ρ : Env} : uCons u us (d :: ds) ρ = (u d ρ).bind fun ρ' => us ds ρ' := rfl
theorem uNil_ap {ρ : Env} : uNil [] ρ = some ρ := rfl
/-- one turn of a loop -/
def turnD (u : Dt → Env → Option Env) (b : Env → SOut) (ds : List Dt) : SOut → SOut
  | .ok .nx ρ => forD u b ds ρ
  | .ok .ct ρ => forD u b ds ρ
  | .ok .bk ρ => .ok .nx ρ
  | o => o
@[simp] theorem turn_nx {u : Dt → Env → Option Env} {b : Env → SOut} {ds : List Dt} {ρ : Env} : turnD u b ds (.ok .nx ρ) = forD u b ds ρ := rfl
@[simp] theorem turn_ct {u : Dt → Env → Option Env} {b : Env → SOut} {ds : List Dt} {ρ : Env} : turnD u b ds (.ok .ct ρ) = forD u b ds ρ := rfl
@[simp] theorem turn_bk {u : Dt → Env → Option Env} {b : Env → SOut} {ds : List Dt} {ρ : Env} : turnD u b ds (.ok .bk ρ) = .ok .nx ρ := rfl
@[simp] theorem turn_rt {u : Dt → Env → Option Env} {b : Env → SOut} {ds : List Dt} {ρ : Env} {d : Dt} : turnD u b ds (.ok (.rt d) ρ) = .ok (.rt d) ρ := rfl
@[simp] theorem turn_exc {u : Dt → Env → Option Env} {b : Env → SOut} {ds : List Dt} {ρ : Env} {x : Exn} : turnD u b ds (.exc x ρ) = .exc x ρ := rfl
theorem forD_c {u : Dt → Env → Option Env} {b : Env → SOut} {d : Dt} {ds : List Dt} {ρ ρ1 : Env} (h : u d ρ = some ρ1) : forD u b (d :: ds) ρ = turnD u b ds (b ρ1) := by
  rw [forD_cons, h]
  show (match b ρ1 with
      | .ok .nx ρ' => forD u b ds ρ'
      | .ok .ct ρ' => forD u b ds ρ'
      | .ok .bk ρ' => .ok .nx ρ'
      | o => o) = _
  cases b ρ1 with
  | ok f ρ' => cases f <;> rfl
  | exc x ρ' => rfl
  | bad => rfl
theorem forD_n {i : Nat} {b : Env → SOut} {d : Dt} {ds : List Dt} {ρ : Env} : forD (uName i) b (d :: ds) ρ = turnD (uName i) b ds (b (ρ.set i (some (.sh d)))) := forD_c rfl
theorem forD_inv {u : Dt → Env → Option Env} {b : Env → SOut} (I : Env → Prop) : ∀ {ds : List Dt} {ρ : Env}, (∀ d ∈ ds, ∀ ρ, I ρ → ∃ ρ1 ρ', u d ρ = some ρ1 ∧ b ρ1 = .ok .nx ρ' ∧ I ρ') → I ρ → ∃ ρ', forD u b ds ρ = .ok .nx ρ' ∧ I ρ'
  | [], ρ, _, hi => ⟨ρ, rfl, hi⟩
  | d :: ds, ρ, h, hi => by
    obtain ⟨ρ1, ρ2, e1, e2, h2⟩ := h d List.mem_cons_self ρ hi
    obtain ⟨ρ3, e3, h3⟩ := forD_inv I (fun d hd => h d (List.mem_cons_of_mem _ hd)) h2
    exact ⟨ρ3, by rw [forD_c e1, e2]; exact e3, h3⟩
theorem sTryAs_exc {K : PySem.W.Frag} {Ds : List Addr} {c : Value} {i : Nat} {g : Env → SOut} {h : Addr → Option Addr → Addr → Env → SOut} {ρ ρ1 : Env} {x : Exn} {r : SOut} (hg : g ρ = .exc x ρ1) (hm : PySem.W.exmOne K (.ref x.cls) c = some true) (hD : x.cls ∈ Ds)
    (hr : ∀ a d, (d = none → x.fs = []) → unset i (h a d x.cls (ρ1.set i (some (.sh (xAt x a d))))) = r) : sTryAs K Ds c i g h ρ = r := by
  unfold sTryAs
  rw [hg]
  simp only [hm, hD, if_true]
  exact catchX_of hr
theorem sTryAs_ok {K : PySem.W.Frag} {Ds : List Addr} {c : Value} {i : Nat} {g : Env → SOut} {h : Addr → Option Addr → Addr → Env → SOut} {ρ ρ1 : Env} {f : Fl} (hg : g ρ = .ok f ρ1) : sTryAs K Ds c i g h ρ = .ok f ρ1 := by
  unfold sTryAs
  rw [hg]
theorem gIsX_cls {K : PySem.W.Frag} {D a C : Addr} {od : Option Addr} {ns : List Str} {ds : List Dt} {b : Bool} (h : PySem.W.kitOne K (.ref D) (.ref C) = some b) : gIsX K D a od [.exn a od D ns ds, .cls C] = some (.bl b) := by
  unfold gIsX
  simp [h]
theorem gIsX_ty {K : PySem.W.Frag} {D a : Addr} {T : String} {od : Option Addr} {ns : List Str} {ds : List Dt} {b : Bool} (h : PySem.W.kitOne K (.ref D) (.type T) = some b) : gIsX K D a od [.exn a od D ns ds, .ty T] = some (.bl b) := by
  unfold gIsX
  simp [h]
theorem sAppend_0 {i : Nat} {f : Env → Out Dt} {lk : List Nat} {ρ : Env} {ds es : List Dt} {d : Dt} (h : ρ[i]? = some (some (.ol ds))) (hf : f ρ = .ok d) (h2 : (frzD d lk ρ)[i]? = some (some (.ol es))) (hl : es.length < 16777216) :
    sAppend i f lk ρ = .ok .nx ((frzD d lk ρ).set i (some (.ol (es ++ [d])))) := by
  unfold sAppend
  rw [h, hf]
  simp only [stE_ok, h2, if_pos hl]
theorem sSetIx_0 {i : Nat} {fi f : Env → Out Dt} {lk : List Nat} {ρ : Env} {ds : List Dt} {d : Dt} {k : Int} {j : Nat} (hf : f ρ = .ok d) (h : (frzD d lk ρ)[i]? = some (some (.ol ds))) (hk : fi (frzD d lk ρ) = .ok (.int k)) (hj : ixN ds.length k = some j) :
    sSetIx i fi f lk ρ = .ok .nx ((frzD d lk ρ).set i (some (.ol (ds.set j d)))) := by
  unfold sSetIx
  rw [hf]
  simp only [stE_ok, h, hk, hj]
theorem atI_map {α β : Type} (f : α → β) (xs : List α) (i : Int) : atI (xs.map f) i = (atI xs i).map f := by
  unfold atI
  rw [List.length_map]
  cases ixN xs.length i with
  | none => rfl
  | some j => exact List.getElem?_map
theorem atI_in {α : Type} {xs : List α} {i : Int} (h0 : 0 ≤ i) (h1 : i < xs.length) : ∃ x, atI xs i = some x ∧ xs[i.toNat]? = some x := by
  have hj : i.toNat < xs.length := by omega
  refine ⟨xs[i.toNat], ?_, List.getElem?_eq_getElem hj⟩
  unfold atI ixN
  rw [if_pos h0, if_pos h1]
  exact List.getElem?_eq_getElem hj
theorem atI_nat {α : Type} (xs : List α) (n : Nat) : atI xs (n : Int) = xs[n]? := by
  unfold atI ixN
  rw [if_pos (by omega)]
  by_cases h : n < xs.length
  · rw [if_pos (by omega)]
    rfl
  · rw [if_neg (by omega), List.getElem?_eq_none (by omega)]
    rfl
theorem atI_0 {α : Type} (a : α) (xs : List α) : atI (a :: xs) 0 = some a := atI_nat (a :: xs) 0
theorem atI_1 {α : Type} (a b : α) (xs : List α) : atI (a :: b :: xs) 1 = some b := atI_nat (a :: b :: xs) 1
theorem atI_2 {α : Type} (a b c : α) (xs : List α) : atI (a :: b :: c :: xs) 2 = some c := atI_nat (a :: b :: c :: xs) 2
theorem atI_3 {α : Type} (a b c d : α) (xs : List α) : atI (a :: b :: c :: d :: xs) 3 = some d := atI_nat (a :: b :: c :: d :: xs) 3
theorem cutD_map {α : Type} (f : α → Dt) (xs : List α) (lo hi : Option Int) : ∃ ys : List α, cutD (xs.map f) lo hi = ys.map f := by
  unfold cutD
  refine ⟨(xs.drop (HT.sIx xs.length 0 lo)).take (HT.sIx xs.length xs.length hi - HT.sIx xs.length 0 lo), ?_⟩
  rw [List.length_map, List.map_take, List.map_drop]
/-! numbers -/
/-- fewer than n bits -/
def Bd (n : Nat) (i : Int) : Prop := i.natAbs < 2 ^ n
theorem Bd.mono {m n : Nat} {i : Int} (h : Bd m i) (hm : m ≤ n) : Bd n i := Nat.lt_of_lt_of_le h (Nat.pow_le_pow_right (by decide) hm)
theorem Bd.mul {m n : Nat} {i j : Int} (h : Bd m i) (k : Bd n j) : Bd (m + n) (i * j) := by
  unfold Bd at *
  rw [Int.natAbs_mul, Nat.pow_add]
  exact Nat.mul_lt_mul'' h k
theorem Bd.add {m n : Nat} {i j : Int} (h : Bd m i) (k : Bd n j) : Bd (max m n + 1) (i + j) := by
  have h1 : i.natAbs < 2 ^ max m n := h.mono (Nat.le_max_left _ _)
  have k1 : j.natAbs < 2 ^ max m n := k.mono (Nat.le_max_right _ _)
  unfold Bd
  rw [Nat.pow_succ]
  have := Int.natAbs_add_le i j
  omega
theorem Bd.neg {n : Nat} {i : Int} (h : Bd n i) : Bd n (-i) := by
  unfold Bd
  rw [Int.natAbs_neg]
  exact h
theorem Bd.sub {m n : Nat} {i j : Int} (h : Bd m i) (k : Bd n j) : Bd (max m n + 1) (i - j) := by
  rw [Int.sub_eq_add_neg]
  exact h.add k.neg
theorem Bd.le {n : Nat} {i j : Int} (h : Bd n i) (k : j.natAbs ≤ i.natAbs) : Bd n j := Nat.lt_of_le_of_lt k h
theorem mulB_of {m n : Nat} {i j : Int} (hi : Bd m i) (hj : Bd n j) (h : m + n ≤ 999000) : mulB i j = true := by
  have hk : ∀ (e k : Nat), k < 2 ^ e → k.log2 ≤ e := fun e k hk => by
    by_cases z : k = 0
    · subst z; simp
    · exact Nat.le_of_lt ((Nat.log2_lt z).mpr hk)
  exact decide_eq_true (by have := hk _ _ hi; have := hk _ _ hj; omega)
theorem divB_of {m : Nat} {i j : Int} (hj : j ≠ 0) (h : Bd m j) (hm : m ≤ 8999) : divB i j = true := by
  refine decide_eq_true ⟨hj, ?_⟩
  have e : j.natAbs ≠ 0 := by omega
  have := (Nat.log2_lt e).mpr h
  omega
theorem nzB_of {i j : Int} (hj : j ≠ 0) : nzB i j = true := decide_eq_true hj
end FD

namespace FD
open PySem L2 PyProof.Rows PySem.Spec
/-! ### texts: methods -/
def eM0 (f : Env → Out Dt) (g : Str → Option Dt) : Env → Out Dt := fun ρ => (f ρ).bind fun a => match a with
  | .str z => ofO (g z)
  | _ => .bad
def eM1 (f fb : Env → Out Dt) (g : Str → Dt → Option Dt) : Env → Out Dt := fun ρ => (f ρ).bind fun a => match a with
  | .str z => (fb ρ).bind fun b => ofO (g z b)
  | _ => .bad
def lM1 (f fb : Env → Out Dt) (g : Str → Dt → Option (List Dt)) : Env → Out (List Dt) := fun ρ => (f ρ).bind fun a => match a with
  | .str z => (fb ρ).bind fun b => ofO (g z b)
  | _ => .bad
section
variable {K : PySem.W.Frag} {W : WX} {H0 H H1 : Hp} {A A0 : Ad} {ρ : Env} {σ : L2.St} {lk la lb : List Nat}
/-- a method of a text without arguments, with one: what is read of it -/
def MV0 (r : V → List V → Hp → VK → Prop) (g : Str → Option Dt) (K : PySem.W.Frag) : Prop := ∀ (H : Hp) (a : Str) (d : Dt) (Q : VK), g a = some d → RE K NoA H Q d → r (.str a) [] H Q
def MV1 (r : V → List V → Hp → VK → Prop) (g : Str → Dt → Option Dt) (K : PySem.W.Frag) : Prop := ∀ (H : Hp) (a : Str) (b d : Dt) (y : V) (Q : VK), Rep K H NoA b y → g a b = some d → RE K NoA H Q d → r (.str a) [y] H Q
theorem ted_m0 {te : TE} {f : Env → Out Dt} {g : Str → Option Dt} {r : V → List V → Hp → VK → Prop} (hr : MV0 r g K) (hs : ∀ a d, g a = some d → d.pure = true) (ha : TED K W te f la) : TED K W (tM0 r te) (eM0 f g) [] := by
  intro H0 A0 ρ σ H Q s h
  refine ha _ _ _ _ _ _ s (h.seq fun a ea h1 v1 H1 s1 r1 => ?_)
  clear ea
  cases a <;> try (exact False.elim h1)
  rename_i z
  obtain ⟨d, e, q⟩ := ofO_seq h1
  have e1 : v1 = .str z := r1
  subst e1
  exact ⟨⟨z, rfl⟩, hr H1 z d Q e fun v H' s' r => q v H' (s1.trans s') (Rep.pure (fun a za => ((s.grow (s1.trans s'))).avMut za) d v (hs _ _ e) r)⟩
theorem ted_m1 {te tb : TE} {f fb : Env → Out Dt} {g : Str → Dt → Option Dt} {r : V → List V → Hp → VK → Prop} (hr : MV1 r g K) (hs : ∀ a b d, g a b = some d → d.pure = true) (ha : TED K W te f la) (hb : TED K W tb fb lb) : TED K W (tM1 r te tb) (eM1 f fb g) [] := by
  intro H0 A0 ρ σ H Q s h
  refine ha _ _ _ _ _ _ s (h.seq fun a ea h1 v1 H1 s1 r1 => ?_)
  clear ea
  cases a <;> try (exact False.elim h1)
  rename_i z
  have e1 : v1 = .str z := r1
  subst e1
  refine ⟨⟨z, rfl⟩, hb _ _ _ _ _ _ (s.grow s1) ((h1.grow s1).seq fun b _ h2 v2 H2 s2 r2 => ?_)⟩
  obtain ⟨d, e, q⟩ := ofO_seq h2
  exact hr H2 z b d v2 Q r2.noA e fun v H' s' r => q v H' ((s1.trans s2).trans s') (Rep.pure (fun a za => ((s.grow ((s1.trans s2).trans s'))).avMut za) d v (hs _ _ _ e) r)
theorem tld_m1 {te tb : TE} {f fb : Env → Out Dt} {g : Str → Dt → Option (List Dt)} {r : V → List V → Hp → VK → Prop}
    (hr : ∀ (H : Hp) (a : Str) (b : Dt) (ds : List Dt) (y : V) (Q : VK), Rep K H NoA b y → g a b = some ds → (∀ p vs, H p = none → Reps K H (fun _ => True) ds vs → Q (.ref p) (upd H p (.lst vs))) → r (.str a) [y] H Q) (ha : TED K W te f la) (hb : TED K W tb fb lb) : TLD K W (tM1 r te tb) (lM1 f fb g) [] := by
  intro H0 A0 ρ σ H Q s h
  refine ha _ _ _ _ _ _ s (h.seq fun a ea h1 v1 H1 s1 r1 => ?_)
  clear ea
  cases a <;> try (exact False.elim h1)
  rename_i z
  have e1 : v1 = .str z := r1
  subst e1
  refine ⟨⟨z, rfl⟩, hb _ _ _ _ _ _ (s.grow s1) ((h1.grow s1).seq fun b _ h2 v2 H2 s2 r2 => ?_)⟩
  obtain ⟨ds, e, q⟩ := ofO_seq h2
  exact hr H2 z b ds v2 Q r2.noA e fun p vs hp r => q p vs _ ((s1.trans s2).trans (Same.new hp)) ((s1.trans s2).free hp) upd_same ((r.same (Same.new hp)).anti fun _ _ => trivial)
theorem strs_rep : ∀ zs : List Str, Reps K H A (zs.map .str) (zs.map V.str)
  | [] => Reps.nil
  | _ :: zs => Reps.cons rfl (strs_rep zs)
theorem strs_of {zs : List Str} {vs : List V} (r : Reps K H A (zs.map Dt.str) vs) : vs = zs.map V.str := by
  induction zs generalizing vs with
  | nil => unfold Reps at r; exact r
  | cons z zs ih =>
    unfold List.map Reps at r
    obtain ⟨v, q, rfl, r1, r2⟩ := r
    have e1 : v = .str z := r1
    subst e1
    rw [ih r2]
    rfl
/-- the texts of a list -/
def strsD : List Dt → Option (List Str)
  | [] => some []
  | .str z :: ds => (strsD ds).map (z :: ·)
  | _ => none
theorem strsD_eq : ∀ {ds : List Dt} {zs : List Str}, strsD ds = some zs → ds = zs.map .str
  | [], zs, e => by cases e; rfl
  | .str z :: ds, zs, e => by
    have e' : (strsD ds).map (z :: ·) = some zs := e
    cases h : strsD ds with
    | none => rw [h] at e'; cases e'
    | some ys =>
      rw [h] at e'
      cases e'
      rw [strsD_eq h]
      rfl
  | .non :: _, _, e => by cases e
  | .bl _ :: _, _, e => by cases e
  | .int _ :: _, _, e => by cases e
  | .ty _ :: _, _, e => by cases e
  | .cls _ :: _, _, e => by cases e
  | .tup _ :: _, _, e => by cases e
  | .lst _ :: _, _, e => by cases e
  | .fls _ :: _, _, e => by cases e
  | .dic _ _ :: _, _, e => by cases e
  | .obj _ _ _ :: _, _, e => by cases e
  | .exn _ _ _ _ _ :: _, _, e => by cases e
@[simp] theorem strsD_map : ∀ zs : List Str, strsD (zs.map .str) = some zs
  | [] => rfl
  | z :: zs => by
    show (strsD (zs.map .str)).map (z :: ·) = _
    rw [strsD_map zs]
    rfl
end
/-! what each method gives -/
abbrev short (a : Str) : Prop := a.length ≤ 16777216
def gBl (f : Str → Bool) (a : Str) : Option Dt := some (.bl (f a))
def gSS (f : Str → Str) (n : Nat) (a : Str) : Option Dt := if a.length ≤ n then some (.str (f a)) else none
def gBlS (f : Str → Str → Bool) (a : Str) : Dt → Option Dt
  | .str b => some (.bl (f a b))
  | _ => none
def gRemPre (a : Str) : Dt → Option Dt
  | .str b => if a.length ≤ 16777216 then some (.str (Txt.removeprefix a b)) else none
  | _ => none
def gZfill (a : Str) : Dt → Option Dt
  | .int i => if PadOk i = true then some (.str (Txt.zfill a i)) else none
  | _ => none
def gPart (a : Str) : Dt → Option Dt
  | .str b => if b.length ≠ 0 ∧ a.length ≤ 16777216 then some (.tup [.str (Txt.partition a b).1, .str (Txt.partition a b).2.1, .str (Txt.partition a b).2.2]) else none
  | _ => none
def gSplit (a : Str) : Dt → Option (List Dt)
  | .str b => if b.length ≠ 0 ∧ a.length + 2 ≤ 16777216 then some ((Txt.split a b).map .str) else none
  | _ => none
def Dt.seqL : Dt → Option (List Dt)
  | .lst ds => some ds
  | .fls ds => some ds
  | .tup ds => some ds
  | _ => none
@[simp] theorem Dt.seqL_lst (ds : List Dt) : (Dt.lst ds).seqL = some ds := rfl
@[simp] theorem Dt.seqL_fls (ds : List Dt) : (Dt.fls ds).seqL = some ds := rfl
@[simp] theorem Dt.seqL_tup (ds : List Dt) : (Dt.tup ds).seqL = some ds := rfl
def sumLen : List Str → Nat
  | [] => 0
  | y :: ys => y.length + sumLen ys
theorem sumLen_eq : ∀ ys : List Str, sumLen ys = (ys.map (fun y => y.length)).sum
  | [] => rfl
  | y :: ys => by
    show y.length + sumLen ys = _
    rw [sumLen_eq ys]
    rfl
def joinS (a : Str) (ys : List Str) : Option Dt := if sumLen ys + ys.length * a.length ≤ 16777216 then some (.str (Txt.join a ys)) else none
def gJoin (a : Str) (b : Dt) : Option Dt := b.seqL.bind fun ds => (strsD ds).bind fun ys => joinS a ys
section
variable {X : Cx} {W : WX} {o e : Expr} {f fb : Env → Out Dt} {la lb : List Nat} {apos pos : Pos}
theorem pd_isdigit (ho : PED X W o f la) (hbase : attributeBase o "isdigit" X.env (eval o X.env) = eval o X.env := by rfl) (hline : (apos.endLine == pos.line) = true := by rfl) : PED X W (.Call (.Attribute o "isdigit" apos) [] [] pos) (eM0 f (gBl Txt.isdigit)) [] := by
  obtain ⟨t, p, d⟩ := ho
  exact ⟨_, pe_m0 F.slot_str_isdigit F.type_str_isdigit mt_isdigit p hbase hline, ted_m0 (fun H a d Q e q => by cases e; exact ⟨a, rfl, rfl, trivial, RE.now q rfl⟩) (fun a d e => by cases e; rfl) d⟩
theorem pd_isascii (ho : PED X W o f la) (hbase : attributeBase o "isascii" X.env (eval o X.env) = eval o X.env := by rfl) (hline : (apos.endLine == pos.line) = true := by rfl) : PED X W (.Call (.Attribute o "isascii" apos) [] [] pos) (eM0 f (gBl Txt.isascii)) [] := by
  obtain ⟨t, p, d⟩ := ho
  exact ⟨_, pe_m0 F.slot_str_isascii F.type_str_isascii mt_isascii p hbase hline, ted_m0 (fun H a d Q e q => by cases e; exact ⟨a, rfl, rfl, trivial, RE.now q rfl⟩) (fun a d e => by cases e; rfl) d⟩
theorem pd_upper (ho : PED X W o f la) (hbase : attributeBase o "upper" X.env (eval o X.env) = eval o X.env := by rfl) (hline : (apos.endLine == pos.line) = true := by rfl) : PED X W (.Call (.Attribute o "upper" apos) [] [] pos) (eM0 f (gSS Txt.upper 5592405)) [] := by
  obtain ⟨t, p, d⟩ := ho
  exact ⟨_, pe_m0 F.slot_str_upper F.type_str_upper mt_upper p hbase hline, ted_m0 (fun H a d Q e q => by obtain ⟨h, rfl⟩ := some_ite e; exact ⟨a, rfl, rfl, h, RE.now q rfl⟩) (fun a d e => by obtain ⟨h, rfl⟩ := some_ite e; rfl) d⟩
theorem pd_startswith (ho : PED X W o f la) (he : PED X W e fb lb) (hs : starEach [e] X.env = [(false, eval e X.env)] := by rfl) (hbase : attributeBase o "startswith" X.env (eval o X.env) = eval o X.env := by rfl) (hline : (apos.endLine == pos.line) = true := by rfl) : PED X W (.Call (.Attribute o "startswith" apos) [e] [] pos) (eM1 f fb (gBlS Txt.startswith)) [] := by
  obtain ⟨t, p, d⟩ := ho
  obtain ⟨t', p', d'⟩ := he
  refine ⟨_, pe_m1 F.slot_str_startswith F.type_str_startswith mt_startswith p p' hs hbase hline, ted_m1 (fun H a b d y Q r e q => ?_) (fun a b d e => ?_) d d'⟩
  · cases b <;> try (cases e; done)
    cases e
    exact ⟨a, _, rfl, congrArg (fun v => [v]) r, RE.now q rfl⟩
  · cases b <;> try (cases e; done)
    cases e
    rfl
theorem pd_removeprefix (ho : PED X W o f la) (he : PED X W e fb lb) (hs : starEach [e] X.env = [(false, eval e X.env)] := by rfl) (hbase : attributeBase o "removeprefix" X.env (eval o X.env) = eval o X.env := by rfl) (hline : (apos.endLine == pos.line) = true := by rfl) : PED X W (.Call (.Attribute o "removeprefix" apos) [e] [] pos) (eM1 f fb gRemPre) [] := by
  obtain ⟨t, p, d⟩ := ho
  obtain ⟨t', p', d'⟩ := he
  refine ⟨_, pe_m1 F.slot_str_removeprefix F.type_str_removeprefix mt_removeprefix p p' hs hbase hline, ted_m1 (fun H a b d y Q r e q => ?_) (fun a b d e => ?_) d d'⟩
  · cases b <;> try (cases e; done)
    obtain ⟨h, rfl⟩ := some_ite e
    exact ⟨a, _, rfl, congrArg (fun v => [v]) r, by rw [sizeLine_eq]; exact h, RE.now q rfl⟩
  · cases b <;> try (cases e; done)
    obtain ⟨h, rfl⟩ := some_ite e
    rfl
theorem pd_zfill (ho : PED X W o f la) (he : PED X W e fb lb) (hs : starEach [e] X.env = [(false, eval e X.env)] := by rfl) (hbase : attributeBase o "zfill" X.env (eval o X.env) = eval o X.env := by rfl) (hline : (apos.endLine == pos.line) = true := by rfl) : PED X W (.Call (.Attribute o "zfill" apos) [e] [] pos) (eM1 f fb gZfill) [] := by
  obtain ⟨t, p, d⟩ := ho
  obtain ⟨t', p', d'⟩ := he
  refine ⟨_, pe_m1 F.slot_str_zfill F.type_str_zfill mt_zfill p p' hs hbase hline, ted_m1 (fun H a b d y Q r e q => ?_) (fun a b d e => ?_) d d'⟩
  · cases b <;> try (cases e; done)
    obtain ⟨h, rfl⟩ := some_ite e
    exact ⟨a, _, rfl, congrArg (fun v => [v]) r, h, RE.now q rfl⟩
  · cases b <;> try (cases e; done)
    obtain ⟨h, rfl⟩ := some_ite e
    rfl
theorem pd_partition (ho : PED X W o f la) (he : PED X W e fb lb) (hs : starEach [e] X.env = [(false, eval e X.env)] := by rfl) (hbase : attributeBase o "partition" X.env (eval o X.env) = eval o X.env := by rfl) (hline : (apos.endLine == pos.line) = true := by rfl) : PED X W (.Call (.Attribute o "partition" apos) [e] [] pos) (eM1 f fb gPart) [] := by
  obtain ⟨t, p, d⟩ := ho
  obtain ⟨t', p', d'⟩ := he
  refine ⟨_, pe_m1 F.slot_str_partition F.type_str_partition mt_partition p p' hs hbase hline, ted_m1 (fun H a b d y Q r e q => ?_) (fun a b d e => ?_) d d'⟩
  · cases b <;> try (cases e; done)
    obtain ⟨h, rfl⟩ := some_ite e
    refine ⟨a, _, rfl, congrArg (fun v => [v]) r, by simpa using h.1, by rw [sizeLine_eq]; exact h.2, fun c hc => q _ _ (Same.new hc) ?_⟩
    unfold Rep
    exact ⟨c, _, rfl, .inl ⟨fun z => z, upd_same⟩, Reps.cons rfl (Reps.cons rfl (Reps.cons rfl Reps.nil))⟩
  · cases b <;> try (cases e; done)
    obtain ⟨h, rfl⟩ := some_ite e
    rfl
theorem pl_split (ho : PED X W o f la) (he : PED X W e fb lb) (hs : starEach [e] X.env = [(false, eval e X.env)] := by rfl) (hbase : attributeBase o "split" X.env (eval o X.env) = eval o X.env := by rfl) (hline : (apos.endLine == pos.line) = true := by rfl) : PLD X W (.Call (.Attribute o "split" apos) [e] [] pos) (lM1 f fb gSplit) [] := by
  obtain ⟨t, p, d⟩ := ho
  obtain ⟨t', p', d'⟩ := he
  refine ⟨_, pe_m1 F.slot_str_split F.type_str_split mt_split p p' hs hbase hline, tld_m1 (fun H a b ds y Q r e q => ?_) d d'⟩
  cases b <;> try (cases e; done)
  obtain ⟨h, rfl⟩ := some_ite e
  exact ⟨a, _, rfl, congrArg (fun v => [v]) r, by simpa using h.1, by rw [sizeLine_eq]; exact h.2, fun c hc => q c _ hc (strs_rep _)⟩
theorem pd_join (ho : PED X W o f la) (he : PED X W e fb lb) (hs : starEach [e] X.env = [(false, eval e X.env)] := by rfl) (hbase : attributeBase o "join" X.env (eval o X.env) = eval o X.env := by rfl) (hline : (apos.endLine == pos.line) = true := by rfl) : PED X W (.Call (.Attribute o "join" apos) [e] [] pos) (eM1 f fb gJoin) [] := by
  obtain ⟨t, p, d⟩ := ho
  obtain ⟨t', p', d'⟩ := he
  refine ⟨_, pe_m1 F.slot_str_join F.type_str_join mt_join p p' hs hbase hline, ted_m1 (fun H a b d y Q r e q => ?_) (fun a b d e => ?_) d d'⟩
  · unfold gJoin at e
    obtain ⟨ds, e1, e⟩ := Option.bind_eq_some_iff.mp e
    obtain ⟨ys, e2, e⟩ := Option.bind_eq_some_iff.mp e
    unfold joinS at e
    obtain ⟨h, rfl⟩ := some_ite e
    rw [sumLen_eq] at h
    have e3 := strsD_eq e2
    subst e3
    cases b <;> try (cases e1; done)
    · cases e1
      unfold Rep at r
      obtain ⟨c, vs, rfl, h1, r2⟩ := r
      rw [strs_of r2] at h1
      exact ⟨a, c, ys, rfl, rfl, .inr (SqT.of' h1), h, RE.now q rfl⟩
    · cases e1
      unfold Rep at r
      obtain ⟨c, vs, rfl, _, h1, r2⟩ := r
      rw [strs_of r2] at h1
      exact ⟨a, c, ys, rfl, rfl, .inl (SqL.of h1), h, RE.now q rfl⟩
    · cases e1
      unfold Rep at r
      obtain ⟨c, vs, rfl, h1, r2⟩ := r
      rw [strs_of r2] at h1
      exact ⟨a, c, ys, rfl, rfl, .inl (SqL.ofF h1), h, RE.now q rfl⟩
  · unfold gJoin at e
    obtain ⟨ds, e1, e⟩ := Option.bind_eq_some_iff.mp e
    obtain ⟨ys, e2, e⟩ := Option.bind_eq_some_iff.mp e
    unfold joinS at e
    obtain ⟨h, rfl⟩ := some_ite e
    rfl
end
end FD

namespace FD
open PySem L2 PyProof.Rows PySem.Spec
/-! ### texts: operators, built-ins, f-strings -/
theorem us64 {k : Nat} {A : Around} {h : Option Value} (r : Room k A) : (A.mark h).units + 64 < cLine := by have := u64 r; exact this
def inS : Dt → Dt → Option Bool
  | .str x, .str z => (match x.cps.toList with
    | [c] => some (decide (c ∈ z.cps.toList))
    | _ => none)
  | _, _ => none
theorem one_sign {x : Str} {c : Nat} (h : x.cps.toList = [c]) : x = ⟨#[c]⟩ := by
  obtain ⟨a⟩ := x
  have e : a = #[c] := by
    apply Array.ext'
    exact h
  rw [e]
theorem inS_inv {a b : Dt} {k : Bool} (e : inS a b = some k) : ∃ (c : Nat) (z : Str), a = .str ⟨#[c]⟩ ∧ b = .str z ∧ k = decide (c ∈ z.cps.toList) := by
  cases a <;> try (cases e; done)
  cases b <;> try (cases e; done)
  rename_i x z
  have e' : (match x.cps.toList with
    | [c] => some (decide (c ∈ z.cps.toList))
    | _ => none) = some k := e
  split at e'
  · rename_i c hc
    cases e'
    exact ⟨c, z, by rw [one_sign hc], rfl, rfl⟩
  · cases e'
section
variable {X : Cx} {W : WX} {a b e iter tg : Expr} {f fa fb : Env → Out Dt} {fs : Env → Out (List Dt)} {la lb lk : List Nat} {pos p p2 : Pos} {lo hi : Option Expr} {fl fh : Env → Out (Option Int)} {es : List Expr}
theorem cm_inS : Cmp X .In inS := by
  refine ⟨_, op_in_sign, fun H A a b k x y Q ra rb e q => ?_⟩
  obtain ⟨c, z, rfl, rfl, rfl⟩ := inS_inv e
  exact ⟨c, z, ra, rb, q⟩
theorem cm_notInS : Cmp X .NotIn (neg2 inS) := by
  refine ⟨_, op_notIn_sign, fun H A a b k x y Q ra rb e q => ?_⟩
  have e' : (inS a b).map (fun x => !x) = some k := e
  obtain ⟨k', e1, rfl⟩ := Option.map_eq_some_iff.mp e'
  obtain ⟨c, z, rfl, rfl, rfl⟩ := inS_inv e1
  exact ⟨c, z, ra, rb, q⟩
/-! text * number -/
def mulSB (x : Str) (n : Int) : Bool := decide (n ≤ 1000000 ∧ -1000000 ≤ n ∧ (x.length : Int) * n ≤ 1000000)
def gMulS : Dt → Dt → Option Dt
  | .str x, .int n => if mulSB x n = true then some (.str (Txt.mul x n)) else none
  | _, _ => none
theorem mulOk_of {x : Str} {n : Int} (h : mulSB x n = true) : MulOk x n := by
  obtain ⟨h1, h2, h3⟩ := (of_decide_eq_true h : n ≤ 1000000 ∧ -1000000 ≤ n ∧ (x.length : Int) * n ≤ 1000000)
  refine ⟨by simp only [Bool.or_eq_false_iff, decide_eq_false_iff_not]; omega, fun hn _ => ?_, fun hn _ => ?_⟩
  · have hp : 0 < n := by omega
    have : (x.length : Int) ≤ (2 ^ 63 - 1) / n := by
      rw [Int.le_ediv_iff_mul_le hp]
      omega
    omega
  · have e : ((x.length * n.toNat : Nat) : Int) = (x.length : Int) * n := by
      rw [Int.natCast_mul, Int.toNat_of_nonneg (by omega)]
    have : x.length * n.toNat ≤ 1000000 := by omega
    refine decide_eq_false (fun hh => ?_)
    have h9 : x.length * n.toNat > 16777216 := by rw [← sizeLine_eq]; exact hh
    omega
theorem op_smul : OpR X (binaryOp .Mult) (fun x y H Q => ∃ (z : Str) (n : Int), x = .str z ∧ y = .int n ∧ MulOk z n ∧ Q (.str (Txt.mul z n)) H) := by
  intro pins s σ H x y v u Q I rx ry h
  obtain ⟨z, n, rfl, rfl, ok, q⟩ := h
  obtain ⟨t, rfl⟩ := rx
  obtain ⟨t', rfl⟩ := ry
  exact PySem.SB.mul ok fun t' k => ⟨.str _, H, I.tok k, ⟨_, rfl⟩, q⟩
theorem pd_mulS (ha : PED X W a fa la) (hb : PED X W b fb lb) : PED X W (.BinOp a .Mult b pos) (e2 fa fb gMulS) [] := by
  obtain ⟨ta, pa, da⟩ := ha
  obtain ⟨tb, pb, db⟩ := hb
  refine ⟨_, pe_op op_smul pa pb, ted_2s (fun H A a b d x y Q _ ra rb e q => ?_) (fun a b d e => ?_) da db⟩
  · cases a <;> try (cases e; done)
    cases b <;> try (cases e; done)
    obtain ⟨h, rfl⟩ := some_ite e
    exact ⟨_, _, ra, rb, mulOk_of h, RE.now q rfl⟩
  · cases a <;> try (cases e; done)
    cases b <;> try (cases e; done)
    obtain ⟨h, rfl⟩ := some_ite e
    rfl
/-! str(x), int(x) -/
def gStr : List Dt → Option Dt
  | [.int i] => if i.natAbs.log2 < 1920 then some (.str (toString i : String)) else none
  | [.str a] => some (.str a)
  | _ => none
@[simp] theorem gStr_int (i : Int) : gStr [.int i] = if i.natAbs.log2 < 1920 then some (.str (toString i : String)) else none := rfl
@[simp] theorem gStr_str (a : Str) : gStr [.str a] = some (.str a) := rfl
theorem CallR.or {c : Value} {r r' : List V → Hp → VK → Prop} (h : CallR X c r) (h' : CallR X c r') : CallR X c (fun xs H Q => r xs H Q ∨ r' xs H Q) := fun pins s σ H xs us Q I rr q => q.elim (h pins s σ H xs us Q I rr) (h' pins s σ H xs us Q I rr)
theorem gStr_scal : ∀ ds d, gStr ds = some d → d.scal = true := fun ds d e => by
  unfold gStr at e
  split at e
  · obtain ⟨_, rfl⟩ := some_ite e; rfl
  · cases e; rfl
  · cases e
theorem pd_strc (hg : Gl X "str") (hm : X.mg "str" = none) (ha : PAD X W [e] fs lk) (he : starEach [e] X.env = (false, eval e X.env) :: starEach [] X.env := by rfl) : PED X W (.Call (.Name "str" p) [e] [] pos) (eB gStr fs) [] := by
  obtain ⟨ta, pa, da⟩ := ha
  refine ⟨_, pe_callTy (CallR.or call_str_int SkE.call_str_str) hg hm bt_str pa (by decide) (by decide) he rfl, ted_bs (fun H A ds d vs Q _ r e q => ?_) gStr_scal da⟩
  unfold gStr at e
  split at e
  · obtain ⟨v, rfl, rr⟩ := reps1 r
    obtain ⟨h, rfl⟩ := some_ite e
    exact .inl ⟨_, congrArg (fun v => [v]) rr, h, RE.now q rfl⟩
  · obtain ⟨v, rfl, rr⟩ := reps1 r
    cases e
    exact .inr ⟨_, congrArg (fun v => [v]) rr, RE.now q rfl⟩
  · cases e
def gIntA : List Dt → Option Dt
  | [.int i] => some (.int i)
  | [.bl b] => some (.int (if b then 1 else 0))
  | [.str a] => if a.length ≤ 640 then (PySem.intText? a).map fun n => .int n else none
  | _ => none
@[simp] theorem gIntA_int (i : Int) : gIntA [.int i] = some (.int i) := rfl
@[simp] theorem gIntA_bl (b : Bool) : gIntA [.bl b] = some (.int (if b then 1 else 0)) := rfl
@[simp] theorem gIntA_str (a : Str) : gIntA [.str a] = if a.length ≤ 640 then (PySem.intText? a).map (fun n => Dt.int n) else none := rfl
theorem gIntA_scal : ∀ ds d, gIntA ds = some d → d.scal = true := fun ds d e => by
  unfold gIntA at e
  split at e
  · cases e; rfl
  · cases e; rfl
  · obtain ⟨_, e⟩ := some_ite' e
    obtain ⟨n, _, rfl⟩ := Option.map_eq_some_iff.mp e
    rfl
  · cases e
where
  some_ite' {α : Type} {c : Prop} [Decidable c] {o : Option α} {x : α} (e : (if c then o else none) = some x) : c ∧ o = some x := by
    split at e
    · exact ⟨by assumption, e⟩
    · cases e
theorem pd_intA (hg : Gl X "int") (hm : X.mg "int" = none) (ha : PAD X W [e] fs lk) (he : starEach [e] X.env = (false, eval e X.env) :: starEach [] X.env := by rfl) : PED X W (.Call (.Name "int" p) [e] [] pos) (eB gIntA fs) [] := by
  obtain ⟨ta, pa, da⟩ := ha
  refine ⟨_, pe_callTy (CallR.or call_int1 call_int_str) hg hm bt_int pa (by decide) (by decide) he rfl, ted_bs (fun H A ds d vs Q _ r e q => ?_) gIntA_scal da⟩
  unfold gIntA at e
  split at e
  · obtain ⟨v, rfl, rr⟩ := reps1 r
    cases e
    exact .inl (.inl ⟨_, congrArg (fun v => [v]) rr, RE.now q rfl⟩)
  · obtain ⟨v, rfl, rr⟩ := reps1 r
    cases e
    exact .inl (.inr ⟨_, congrArg (fun v => [v]) rr, RE.now q rfl⟩)
  · obtain ⟨v, rfl, rr⟩ := reps1 r
    obtain ⟨h, e⟩ := gIntA_scal.some_ite' e
    obtain ⟨n, hn, rfl⟩ := Option.map_eq_some_iff.mp e
    exact .inr ⟨_, n, congrArg (fun v => [v]) rr, hn, h, RE.now q rfl⟩
  · cases e
/-! divmod -/
def gDivmod : List Dt → Option Dt
  | [.int i, .int j] => if divB i j = true then some (.tup [.int (i.fdiv j), .int (i.fmod j)]) else none
  | _ => none
@[simp] theorem gDivmod_int (i j : Int) : gDivmod [.int i, .int j] = if divB i j = true then some (.tup [.int (i.fdiv j), .int (i.fmod j)]) else none := rfl
theorem call_divmodG : CallR X (.builtin "divmod") (fun xs H Q => ∃ i j : Int, xs = [.int i, .int j] ∧ (j ≠ 0 ∧ j.natAbs.log2 < 9000) ∧ ∀ c, H c = none → Q (.ref c) (upd H c (.tup [.int (i.fdiv j), .int (i.fmod j)]))) := by
  intro pins s σ H xs us Q I r h
  obtain ⟨i, j, rfl, ⟨h1, h2⟩, q⟩ := h
  match us, r with
  | [_, _], .cons r1 (.cons r2 .nil) =>
    obtain ⟨t, rfl⟩ := r1
    obtain ⟨t', rfl⟩ := r2
    refine divmod_int h1 ?_ (.inl (PyProof.noPylong_of_log2 h2))
    have hn : H s.heap.objs.size = none := I.hok.fresh (Nat.le_refl _)
    have kp : ∀ b o, s.heap.get? b = some o → (s.heap.push ({ cls := .type "tuple", data := .seq #[.int (i.fdiv j) s.toks, .int (i.fmod j) (s.toks + 1)] } : Obj)).get? b = some o := fun b o e => Heap.get?_push_of_some _ e
    have new : ObjOk X.prog X.w (upd H s.heap.objs.size (.tup [.int (i.fdiv j), .int (i.fmod j)])) (s.heap.push ({ cls := .type "tuple", data := .seq #[.int (i.fdiv j) s.toks, .int (i.fmod j) (s.toks + 1)] } : Obj)) s.heap.objs.size (.tup [.int (i.fdiv j), .int (i.fmod j)]) :=
      ⟨by show 2 ≤ sizeLine; rw [sizeLine_eq]; decide, [.int (i.fdiv j) s.toks, .int (i.fmod j) (s.toks + 1)], .cons ⟨_, rfl⟩ (.cons ⟨_, rfl⟩ .nil), ⟨_, Heap.get?_push_size _ rfl, rfl, _, rfl⟩⟩
    exact ⟨.ref s.heap.objs.size, _, I.laid (t' := s.toks + 1 + 1) kp (Nat.le_refl _) new, rfl, q _ hn⟩
theorem pd_divmod (hg : Gl X "divmod") (hm : X.mg "divmod" = none) (ha : PAD X W [a, b] fs lk) (he : starEach [a, b] X.env = (false, eval a X.env) :: starEach [b] X.env := by rfl) (hpl : (backTo pos (starEach [b] X.env)).any (·.1) = false := by rfl) : PED X W (.Call (.Name "divmod" p) [a, b] [] pos) (eB gDivmod fs) lk := by
  obtain ⟨ta, pa, da⟩ := ha
  refine ⟨_, pe_callB call_divmodG hg hm (by first | rfl | kernel_rfl) pa (by decide) (by decide) he hpl, ted_b (fun H A ds d vs Q hA r e q => ?_) da⟩
  unfold gDivmod at e
  split at e
  · obtain ⟨v, u, rfl, r1, r2⟩ := reps2 r
    obtain ⟨h, rfl⟩ := some_ite e
    have e1 : v = .int _ := r1
    have e2 : u = .int _ := r2
    subst e1 e2
    refine ⟨_, _, rfl, of_decide_eq_true h, fun c hc => q _ _ (Same.new hc) ?_⟩
    unfold Rep
    exact ⟨c, _, rfl, .inl ⟨fun z => by have w := hA c z; rw [hc] at w; exact w, upd_same⟩, Reps.cons rfl (Reps.cons rfl Reps.nil)⟩
  · cases e
/-! slices of lists and texts, as values -/
def gCutA (a : Dt) (lo hi : Option Int) : Option Dt := match a with
  | .lst ds => some (.lst (cutD ds lo hi))
  | .fls ds => some (.lst (cutD ds lo hi))
  | .str z => if z.length ≤ 16777216 then some (.str (Txt.slice z lo hi)) else none
  | _ => none
def eCut (f : Env → Out Dt) (fl fh : Env → Out (Option Int)) : Env → Out Dt := fun ρ => (f ρ).bind fun a => (fl ρ).bind fun lo => (fh ρ).bind fun hi => ofO (gCutA a lo hi)
theorem pd_cut (he : PED X W e f la) (hl : POD X W lo fl) (hh : POD X W hi fh) : PED X W (.Subscript e (.Slice lo hi none p2) pos) (eCut f fl fh) la := by
  obtain ⟨t, p, d⟩ := he
  obtain ⟨tl, pl, dl⟩ := hl
  obtain ⟨th, ph, dh⟩ := hh
  refine ⟨_, pe_slice (SlR.or sl_list C8.sl_txt) p pl ph, ?_⟩
  intro H0 A0 ρ σ H Q s h
  refine d _ _ _ _ _ _ s (h.seq fun a _ h1 v H1 s1 r1 => ?_)
  refine dl _ _ _ _ _ _ (s.grow s1) ((h1.grow s1).seq fun lo _ h2 H2 s2 => ?_)
  refine dh _ _ _ _ _ _ (s.grow (s1.trans s2)) ((h2.grow s2).seq fun hi _ h3 H3 s3 => ?_)
  obtain ⟨d', e, q⟩ := ofO_seq h3
  have sA := (s1.trans s2).trans s3
  have r3 := r1.same (s2.trans s3)
  have new : ∀ {es : List Dt} {us : List V} {c : Addr}, H3 c = none → Reps X.K H3 (Av A0 ρ σ la) es us → Rep X.K (upd H3 c (.lst us)) (Av A0 ρ σ la) (.lst es) (.ref c) := fun {es us c} hc r => by
    unfold Rep
    exact ⟨c, us, rfl, (s.grow sA).notAv hc, upd_same, r.same (Same.new hc)⟩
  cases a <;> try (cases e; done)
  · obtain ⟨hz, rfl⟩ := some_ite e
    exact .inr ⟨_, r3, by rw [sizeLine_eq]; exact hz, q _ _ sA rfl⟩
  · cases e
    unfold Rep at r3
    obtain ⟨c0, vs, rfl, n, h1, r⟩ := r3
    exact .inl ⟨c0, vs, rfl, SqL.of h1, fun c hc => q _ _ (sA.trans (Same.new hc)) (new hc r.cut)⟩
  · cases e
    unfold Rep at r3
    obtain ⟨c0, vs, rfl, h1, r⟩ := r3
    exact .inl ⟨c0, vs, rfl, SqL.ofF h1, fun c hc => q _ _ (sA.trans (Same.new hc)) (new hc r.cut)⟩
/-! l[::-1] -/
def gRevL : Dt → Option (List Dt)
  | .lst ds => some ds.reverse
  | .fls ds => some ds.reverse
  | _ => none
def lRev (f : Env → Out Dt) : Env → Out (List Dt) := fun ρ => (f ρ).bind fun a => ofO (gRevL a)
theorem Reps.rev {K : PySem.W.Frag} {H : Hp} {A : Ad} : ∀ {ds : List Dt} {vs : List V}, Reps K H A ds vs → Reps K H A ds.reverse vs.reverse
  | [], vs, r => by unfold Reps at r; subst r; exact Reps.nil
  | d :: ds, vs, r => by
    unfold Reps at r
    obtain ⟨v, q, rfl, r1, r2⟩ := r
    rw [List.reverse_cons, List.reverse_cons]
    exact Reps.append (Reps.rev r2) (Reps.cons r1 Reps.nil)
theorem pl_rev {k : Nat} {q1 q2 q3 : Pos} (he : PED X W e f la) : PLD X W (.Subscript e (.Slice none none (some (.UnaryOp .USub (.Constant (.int 1) k q1) q2)) q3) pos) (lRev f) la := by
  obtain ⟨t, p, d⟩ := he
  refine ⟨_, pe_revL p, ?_⟩
  intro H0 A0 ρ σ H Q s h
  refine d _ _ _ _ _ _ s (h.seq fun a _ h1 v H1 s1 r1 => ?_)
  obtain ⟨ds, e, q⟩ := ofO_seq h1
  cases a <;> try (cases e; done)
  · cases e
    unfold Rep at r1
    obtain ⟨c0, vs, rfl, n, h1, r⟩ := r1
    exact ⟨c0, vs, rfl, SqL.of h1, fun c hc => q c _ _ (s1.trans (Same.new hc)) (s1.free hc) upd_same ((Reps.fresh hc _ _ (Reps.rev r)).same (Same.new hc))⟩
  · cases e
    unfold Rep at r1
    obtain ⟨c0, vs, rfl, h1, r⟩ := r1
    exact ⟨c0, vs, rfl, SqL.ofF h1, fun c hc => q c _ _ (s1.trans (Same.new hc)) (s1.free hc) upd_same ((Reps.fresh hc _ _ (Reps.rev r)).same (Same.new hc))⟩
/-! f-strings -/
def gFmt : Dt → Option Dt
  | .str y => if y.length ≤ 16777216 then some (.str y) else none
  | .int i => if i.natAbs.log2 < 1920 then some (.str (toString i : String)) else none
  | _ => none
def gFmtR : Dt → Option Dt
  | .str y => if (reprText y).length ≤ 16777216 then some (.str (reprText y)) else none
  | .int i => if i.natAbs.log2 < 1920 then some (.str (toString i : String)) else none
  | _ => none
@[simp] theorem gFmt_str (y : Str) : gFmt (.str y) = if y.length ≤ 16777216 then some (.str y) else none := rfl
@[simp] theorem gFmt_int (i : Int) : gFmt (.int i) = if i.natAbs.log2 < 1920 then some (.str (toString i : String)) else none := rfl
theorem pd_fmt (he : PED X W e f la) : PED X W (.FormattedValue e (-1) none pos) (e1 f gFmt) [] := by
  obtain ⟨t, p, d⟩ := he
  refine ⟨_, L2.pe_fmt p, ?_⟩
  intro H0 A0 ρ σ H Q s h
  refine d _ _ _ _ _ _ s (h.seq fun a _ h1 v H1 s1 r1 => ?_)
  obtain ⟨d', e, q⟩ := ofO_seq h1
  cases a <;> try (cases e; done)
  · obtain ⟨hz, rfl⟩ := some_ite e
    exact .inr ⟨_, r1, hz, q _ _ s1 rfl⟩
  · obtain ⟨hz, rfl⟩ := some_ite e
    exact .inl ⟨_, r1, by rw [sizeLine_eq]; exact hz, q _ _ s1 rfl⟩
theorem pd_fmtR (he : PED X W e f la) : PED X W (.FormattedValue e 114 none pos) (e1 f gFmtR) [] := by
  obtain ⟨t, p, d⟩ := he
  refine ⟨_, L2.pe_fmtR p, ?_⟩
  intro H0 A0 ρ σ H Q s h
  refine d _ _ _ _ _ _ s (h.seq fun a _ h1 v H1 s1 r1 => ?_)
  obtain ⟨d', e, q⟩ := ofO_seq h1
  cases a <;> try (cases e; done)
  · obtain ⟨hz, rfl⟩ := some_ite e
    exact .inr ⟨_, r1, hz, q _ _ s1 rfl⟩
  · obtain ⟨hz, rfl⟩ := some_ite e
    exact .inl ⟨_, r1, by rw [sizeLine_eq]; exact hz, q _ _ s1 rfl⟩
def jN : Env → Str → Out Dt := fun _ acc => .ok (.str acc)
def jC (f : Env → Out Dt) (m : Env → Str → Out Dt) : Env → Str → Out Dt := fun ρ acc => (f ρ).bind fun d => match d with
  | .str y => if (acc ++ y).length ≤ 16777216 then m ρ (acc ++ y) else .bad
  | _ => .bad
def eJ (m : Env → Str → Out Dt) : Env → Out Dt := fun ρ => m ρ Str.empty
def PJD (X : Cx) (W : WX) (es : List Expr) (m : Env → Str → Out Dt) : Prop := ∃ ts, PJ X es ts ∧ ∀ (H0 : Hp) (A0 : Ad) (ρ : Env) (σ : L2.St) (H : Hp) (acc : Str) (Q : Str → Hp → Prop), StOk X.K H0 A0 H ρ σ → PostX X.K W H σ (m ρ acc) (fun d => ∀ z H', d = .str z → Same H H' → Q z H') → tJs ts acc σ H Q
theorem pj_nil : PJD X W [] jN := ⟨[], .nil, fun H0 A0 ρ σ H acc Q s h => h acc H rfl (Same.refl H)⟩
theorem pj_cons {m : Env → Str → Out Dt} (he : PED X W e f la) (hr : PJD X W es m) : PJD X W (e :: es) (jC f m) := by
  obtain ⟨t, p, d⟩ := he
  obtain ⟨ts, ps, ds⟩ := hr
  refine ⟨t :: ts, .cons p ps, fun H0 A0 ρ σ H acc Q s h => ?_⟩
  refine d _ _ _ _ _ _ s (h.seq fun a ea h1 v H1 s1 r1 => ?_)
  clear ea
  cases a <;> try (exact False.elim h1)
  rename_i y
  have e1 : v = .str y := r1
  simp only at h1
  split at h1
  · rename_i hz
    refine ⟨y, e1, by rw [sizeLine_eq]; exact hz, ds _ _ _ _ _ _ _ (s.grow s1) ((h1.grow s1).imp fun d _ q z H' e s' => q z H' e (s1.trans s'))⟩
  · exact False.elim h1
theorem pd_joined {e1 e2 : Expr} {m : Env → Str → Out Dt} (h : PJD X W (e1 :: e2 :: es) m) (hm : ∀ ρ acc d, m ρ acc = .ok d → ∃ z, d = .str z) : PED X W (.JoinedStr (e1 :: e2 :: es) pos) (eJ m) [] := by
  obtain ⟨ts, ps, ds⟩ := h
  refine ⟨_, L2.pe_joined ps, fun H0 A0 ρ σ H Q s h => ds _ _ _ _ _ _ _ s (h.imp fun d ed q z H' e s' => ?_)⟩
  subst e
  exact q _ _ s' rfl
theorem jN_str : ∀ ρ acc d, jN ρ acc = .ok d → ∃ z, d = .str z := fun ρ acc d e => by cases e; exact ⟨_, rfl⟩
theorem jC_str {f : Env → Out Dt} {m : Env → Str → Out Dt} (h : ∀ ρ acc d, m ρ acc = .ok d → ∃ z, d = .str z) : ∀ ρ acc d, jC f m ρ acc = .ok d → ∃ z, d = .str z := fun ρ acc d e => by
  unfold jC at e
  obtain ⟨a, _, e⟩ := Out.bind_eq_ok e
  cases a <;> try (cases e; done)
  simp only at e
  split at e
  · exact h _ _ _ e
  · cases e
theorem pd_joined1 (he : PED X W e f la) : PED X W (.JoinedStr [e] pos) f la := by
  obtain ⟨t, p, d⟩ := he
  exact ⟨_, L2.pe_joined1 p, d⟩
end
end FD

namespace Lk01
open PySem L2 PyProof.Rows PySem.Spec FD
def top (i : Nat) : Stmt := PySem.Challenge.pw_bidehall_k01_exact_texts.main.body.getD i (.Pass ⟨0, 0, 0, 0⟩)
def initOf (s : Stmt) : Stmt := match s with
  | .ClassDef _ _ _ b _ _ _ _ _ _ _ => b.getD 0 (.Pass ⟨0, 0, 0, 0⟩)
  | _ => .Pass ⟨0, 0, 0, 0⟩
abbrev s_integer_text : Stmt := top 14
abbrev s_exact_text : Stmt := top 13
abbrev s__law_cell : Stmt := top 18
abbrev s__law_shared : Stmt := top 20
abbrev s__law_number : Stmt := top 21
abbrev s__law_text : Stmt := top 22
abbrev s__law_changed : Stmt := top 25
abbrev s__law_odd : Stmt := top 26
abbrev s_exact : Stmt := top 12
abbrev s_is_digits : Stmt := top 16
abbrev s_read_exact : Stmt := top 15
abbrev s__law_is_integer : Stmt := top 19
abbrev s__law_digits : Stmt := top 23
abbrev s__law_read : Stmt := top 24
abbrev s__law_asked : Stmt := top 27
abbrev s__law_long : Stmt := top 28
abbrev s_law : Stmt := top 29
abbrev s_ZeroDenominator : Stmt := initOf (top 5)
abbrev s_BadExact : Stmt := initOf (top 4)
structure Cs where
  c_ZeroDenominator : Addr
  c_BadExact : Addr
  c_HouseError : Addr
  c_Refused : Addr
  c_NoAnswer : Addr
  c_Unfit : Addr
abbrev Cs.all (cs : Cs) : List Addr := [cs.c_ZeroDenominator, cs.c_BadExact]
abbrev fn_ZeroDenominator : List Str := []
def g_ZeroDenominator : List Dt → Bool := fun _ => true
abbrev ok1_ZeroDenominator : V → Prop := fun _ => True
abbrev ok_ZeroDenominator : List V → Prop := (fun _ => True)
theorem okv_ZeroDenominator (K : PySem.W.Frag) : OkV K g_ZeroDenominator ok_ZeroDenominator := fun _ _ _ _ _ _ => trivial
abbrev fn_BadExact : List Str := ["text"]
def g_BadExact : List Dt → Bool
  | [.str x] => decide ((PySem.reprText x).length ≤ 16000000)
  | _ => false
abbrev ok1_BadExact : V → Prop := fun v => ∃ x, v = .str x ∧ (PySem.reprText x).length ≤ 16000000
abbrev ok_BadExact : List V → Prop := (fun vs => ∀ v ∈ vs, ok1_BadExact v)
theorem okv_BadExact (K : PySem.W.Frag) : OkV K g_BadExact ok_BadExact := by
  intro H A ds vs r e
  unfold g_BadExact at e
  split at e
  · rename_i x
    obtain ⟨v, rfl, rr⟩ := reps1 r
    have e1 : v = .str x := rr
    subst e1
    intro v hv
    rw [List.mem_singleton.mp hv]
    exact ⟨x, rfl, of_decide_eq_true e⟩
  · cases e
/-- what the top has written -/
structure Tx (P : Program) (w : World) (K : PySem.W.Frag) (mg : Str → Option Value) (base : Heap) (cs : Cs) : Prop where
  n_ValueError : mg "ValueError" = none
  n_abs : mg "abs" = none
  n_bool : mg "bool" = none
  n_divmod : mg "divmod" = none
  n_int : mg "int" = none
  n_isinstance : mg "isinstance" = none
  n_len : mg "len" = none
  n_range : mg "range" = none
  n_str : mg "str" = none
  n_tuple : mg "tuple" = none
  n_gcd : mg "gcd" = some (.builtin "math.gcd")
  v_PIECE : ∃ u, mg "PIECE" = some u ∧ RelV (.int 1000000000000000000000000000000000000000000000000000000000000) u
  v_PIECE_DIGITS : ∃ u, mg "PIECE_DIGITS" = some u ∧ RelV (.int 60) u
  v_MOST_DIGITS : ∃ u, mg "MOST_DIGITS" = some u ∧ RelV (.int 40) u
  g_ZeroDenominator : mg "ZeroDenominator" = some (.ref cs.c_ZeroDenominator)
  g_BadExact : mg "BadExact" = some (.ref cs.c_BadExact)
  g_HouseError : mg "HouseError" = some (.ref cs.c_HouseError)
  g_Refused : mg "Refused" = some (.ref cs.c_Refused)
  g_NoAnswer : mg "NoAnswer" = some (.ref cs.c_NoAnswer)
  g_Unfit : mg "Unfit" = some (.ref cs.c_Unfit)
  m_ZeroDenominator : PySem.FX.XMk P w K mg base cs.c_ZeroDenominator fn_ZeroDenominator ok_ZeroDenominator
  k_ZeroDenominator : PySem.W.keepIn K (.ref cs.c_ZeroDenominator) = true
  e_ZeroDenominator : PySem.W.subIn K (.ref cs.c_ZeroDenominator) (.type "BaseException") = some true
  t_ZeroDenominator : PySem.W.typeIn K (.ref cs.c_ZeroDenominator) = some (.type "type")
  m_BadExact : PySem.FX.XMk P w K mg base cs.c_BadExact fn_BadExact ok_BadExact
  k_BadExact : PySem.W.keepIn K (.ref cs.c_BadExact) = true
  e_BadExact : PySem.W.subIn K (.ref cs.c_BadExact) (.type "BaseException") = some true
  t_BadExact : PySem.W.typeIn K (.ref cs.c_BadExact) = some (.type "type")
  xf : ∀ C : Addr, C ∈ cs.all → XfC K C
  xn_text : ∀ C : Addr, C ∈ cs.all → PySem.W.findIn K (.ref C) "text" = some none
  xc : ∀ C : Addr, C ∈ cs.all → ExcC K C
  x_ZeroDenominator_BadExact : PySem.W.exmOne K (.ref cs.c_ZeroDenominator) (.ref cs.c_BadExact) = some false
  i_ZeroDenominator_ZeroDenominator : PySem.W.kitOne K (.ref cs.c_ZeroDenominator) (.ref cs.c_ZeroDenominator) = some true
  i_ZeroDenominator_Unfit : PySem.W.kitOne K (.ref cs.c_ZeroDenominator) (.ref cs.c_Unfit) = some false
  i_ZeroDenominator_NoAnswer : PySem.W.kitOne K (.ref cs.c_ZeroDenominator) (.ref cs.c_NoAnswer) = some false
  i_ZeroDenominator_Refused : PySem.W.kitOne K (.ref cs.c_ZeroDenominator) (.ref cs.c_Refused) = some true
  i_ZeroDenominator_HouseError : PySem.W.kitOne K (.ref cs.c_ZeroDenominator) (.ref cs.c_HouseError) = some true
  i_ZeroDenominator_ValueError : PySem.W.kitOne K (.ref cs.c_ZeroDenominator) (.type "ValueError") = some true
  x_BadExact_BadExact : PySem.W.exmOne K (.ref cs.c_BadExact) (.ref cs.c_BadExact) = some true
  i_BadExact_ZeroDenominator : PySem.W.kitOne K (.ref cs.c_BadExact) (.ref cs.c_ZeroDenominator) = some false
  i_BadExact_Unfit : PySem.W.kitOne K (.ref cs.c_BadExact) (.ref cs.c_Unfit) = some false
  i_BadExact_NoAnswer : PySem.W.kitOne K (.ref cs.c_BadExact) (.ref cs.c_NoAnswer) = some false
  i_BadExact_Refused : PySem.W.kitOne K (.ref cs.c_BadExact) (.ref cs.c_Refused) = some true
  i_BadExact_HouseError : PySem.W.kitOne K (.ref cs.c_BadExact) (.ref cs.c_HouseError) = some true
  i_BadExact_ValueError : PySem.W.kitOne K (.ref cs.c_BadExact) (.type "ValueError") = some true
  F_integer_text : ∃ (a : Addr) (fd : FuncData), FunD K "integer_text" "integer_text" (defArgs s_integer_text) (defBody s_integer_text) (defScope s_integer_text) [] [] a fd ∧ mg "integer_text" = some (.ref a)
  F_exact_text : ∃ (a : Addr) (fd : FuncData), FunD K "exact_text" "exact_text" (defArgs s_exact_text) (defBody s_exact_text) (defScope s_exact_text) [] [] a fd ∧ mg "exact_text" = some (.ref a)
  F__law_cell : ∃ (a : Addr) (fd : FuncData), FunD K "_law_cell" "_law_cell" (defArgs s__law_cell) (defBody s__law_cell) (defScope s__law_cell) [] [] a fd ∧ mg "_law_cell" = some (.ref a)
  F__law_shared : ∃ (a : Addr) (fd : FuncData), FunD K "_law_shared" "_law_shared" (defArgs s__law_shared) (defBody s__law_shared) (defScope s__law_shared) [] [] a fd ∧ mg "_law_shared" = some (.ref a)
  F__law_number : ∃ (a : Addr) (fd : FuncData), FunD K "_law_number" "_law_number" (defArgs s__law_number) (defBody s__law_number) (defScope s__law_number) [] [] a fd ∧ mg "_law_number" = some (.ref a)
  F__law_text : ∃ (a : Addr) (fd : FuncData), FunD K "_law_text" "_law_text" (defArgs s__law_text) (defBody s__law_text) (defScope s__law_text) [] [] a fd ∧ mg "_law_text" = some (.ref a)
  F__law_changed : ∃ (a : Addr) (fd : FuncData), FunD K "_law_changed" "_law_changed" (defArgs s__law_changed) (defBody s__law_changed) (defScope s__law_changed) [] [] a fd ∧ mg "_law_changed" = some (.ref a)
  F__law_odd : ∃ (a : Addr) (fd : FuncData), FunD K "_law_odd" "_law_odd" (defArgs s__law_odd) (defBody s__law_odd) (defScope s__law_odd) [] [] a fd ∧ mg "_law_odd" = some (.ref a)
  F_exact : ∃ (a : Addr) (fd : FuncData), FunD K "exact" "exact" (defArgs s_exact) (defBody s_exact) (defScope s_exact) [(.int 1)] [] a fd ∧ mg "exact" = some (.ref a)
  F_is_digits : ∃ (a : Addr) (fd : FuncData), FunD K "is_digits" "is_digits" (defArgs s_is_digits) (defBody s_is_digits) (defScope s_is_digits) [] [] a fd ∧ mg "is_digits" = some (.ref a)
  F_read_exact : ∃ (a : Addr) (fd : FuncData), FunD K "read_exact" "read_exact" (defArgs s_read_exact) (defBody s_read_exact) (defScope s_read_exact) [] [] a fd ∧ mg "read_exact" = some (.ref a)
  F__law_is_integer : ∃ (a : Addr) (fd : FuncData), FunD K "_law_is_integer" "_law_is_integer" (defArgs s__law_is_integer) (defBody s__law_is_integer) (defScope s__law_is_integer) [] [] a fd ∧ mg "_law_is_integer" = some (.ref a)
  F__law_digits : ∃ (a : Addr) (fd : FuncData), FunD K "_law_digits" "_law_digits" (defArgs s__law_digits) (defBody s__law_digits) (defScope s__law_digits) [] [] a fd ∧ mg "_law_digits" = some (.ref a)
  F__law_read : ∃ (a : Addr) (fd : FuncData), FunD K "_law_read" "_law_read" (defArgs s__law_read) (defBody s__law_read) (defScope s__law_read) [] [] a fd ∧ mg "_law_read" = some (.ref a)
  F__law_asked : ∃ (a : Addr) (fd : FuncData), FunD K "_law_asked" "_law_asked" (defArgs s__law_asked) (defBody s__law_asked) (defScope s__law_asked) [] [] a fd ∧ mg "_law_asked" = some (.ref a)
  F__law_long : ∃ (a : Addr) (fd : FuncData), FunD K "_law_long" "_law_long" (defArgs s__law_long) (defBody s__law_long) (defScope s__law_long) [] [] a fd ∧ mg "_law_long" = some (.ref a)
  F_law : ∃ (a : Addr) (fd : FuncData), FunD K "law" "law" (defArgs s_law) (defBody s_law) (defScope s_law) [] [] a fd ∧ mg "law" = some (.ref a)
section
variable {P : Program} {w : World} {K : PySem.W.Frag} {mg : Str → Option Value} {base : Heap} {cs : Cs}
theorem mkc_ZeroDenominator {X : Cx} (T : Tx X.prog X.w X.K X.mg X.base cs) : MkC X "ZeroDenominator" cs.c_ZeroDenominator fn_ZeroDenominator ok_ZeroDenominator := ⟨T.m_ZeroDenominator, T.g_ZeroDenominator, T.k_ZeroDenominator, T.e_ZeroDenominator, T.t_ZeroDenominator⟩
theorem mkc_BadExact {X : Cx} (T : Tx X.prog X.w X.K X.mg X.base cs) : MkC X "BadExact" cs.c_BadExact fn_BadExact ok_BadExact := ⟨T.m_BadExact, T.g_BadExact, T.k_BadExact, T.e_BadExact, T.t_BadExact⟩
theorem rel_PIECE {X : Cx} (T : Tx X.prog X.w X.K X.mg X.base cs) : ∃ u, X.mg "PIECE" = some u ∧ RelV (.int 1000000000000000000000000000000000000000000000000000000000000) u := T.v_PIECE
theorem rel_PIECE_DIGITS {X : Cx} (T : Tx X.prog X.w X.K X.mg X.base cs) : ∃ u, X.mg "PIECE_DIGITS" = some u ∧ RelV (.int 60) u := T.v_PIECE_DIGITS
theorem rel_MOST_DIGITS {X : Cx} (T : Tx X.prog X.w X.K X.mg X.base cs) : ∃ u, X.mg "MOST_DIGITS" = some u ∧ RelV (.int 40) u := T.v_MOST_DIGITS
noncomputable def b_integer_text (K : PySem.W.Frag) (cs : Cs) : FD.Env → SOut :=
  (sSeq (sSet 1 (eB gAbs (aCons (eVar 0) aNil)) [])
    (sSeq (sSetL 2 (lLst aNil) [])
    (sSeq (sWhile (t2 (eVar 1) (eC (.int 1000000000000000000000000000000000000000000000000000000000000)) (cI fun i j => decide (j ≤ i)))
    (sSeq (sAsg (uTup (uCons (uName 1) (uCons (uName 3) uNil))) (eB gDivmod (aCons (eVar 1) (aCons (eC (.int 1000000000000000000000000000000000000000000000000000000000000)) aNil))) [1])
    (sAppend 2 (eM1 (eB gStr (aCons (eVar 3) aNil)) (eC (.int 60)) gZfill) [])))
    (sSeq (sAppend 2 (eB gStr (aCons (eVar 1) aNil)) [])
    (sSeq (sSet 4 (eIfD (t2 (eVar 0) (eC (.int 0)) (cI fun i j => decide (i < j))) (eC (.str "-")) (eC (.str ""))) [])
    (sRet (e2 (eVar 4) (eM1 (eC (.str "")) (eL (lRev (eVar 2))) gJoin) gAdd)))))))
theorem sc_integer_text : FnScope ["n", "left", "pieces", "low", "sign"] ["n"] (defScope s_integer_text) := ⟨rfl, rfl, rfl, by decide +kernel, rfl, by decide +kernel, by decide +kernel⟩
noncomputable def m_integer_text (K : PySem.W.Frag) (cs : Cs) : List Dt → Out Dt := argN 1 (runD 5 (b_integer_text K cs))
theorem ok_integer_text (T : Tx P w K mg base cs) {a : Addr} {fd : FuncData} (F : FunD K "integer_text" "integer_text" (defArgs s_integer_text) (defBody s_integer_text) (defScope s_integer_text) [] [] a fd) : FnOk P w K mg base (L2.CX P w) 1 a fd ["n"] (spD K 1 (runD 5 (b_integer_text K cs))) :=
  def_okD F sc_integer_text (fun cdv A outer s H E hr =>
    (s_cons (s_set 1 sc_integer_text.nd (pd_abs (by rfl) T.n_abs (pa_consD (pd_var 0) pa_nilD)))
    (s_cons (s_setL 2 sc_integer_text.nd (pl_lst pa_nilD))
    (s_cons (s_while (passes_of (by rfl)) (pt_c cm_ge (pd_var 1) (pd_glob (v := .int 1000000000000000000000000000000000000000000000000000000000000) (d := .int 1000000000000000000000000000000000000000000000000000000000000) (by rfl) (rel_PIECE T) (fun _ _ => rfl)))
    (s_cons (s_asg (pd_divmod (by rfl) T.n_divmod (pa_consD (pd_var 1) (pa_consD (pd_glob (v := .int 1000000000000000000000000000000000000000000000000000000000000) (d := .int 1000000000000000000000000000000000000000000000000000000000000) (by rfl) (rel_PIECE T) (fun _ _ => rfl)) pa_nilD))) (g_tup (by rfl) (gs_cons (g_name 1 sc_integer_text.nd) (gs_cons (g_name 3 sc_integer_text.nd) gs_nil)) (ulen_cons (ulen_cons ulen_nil))))
    (s_one (s_append 2 (pd_zfill (pd_strc (by rfl) T.n_str (pa_consD (pd_var 3) pa_nilD)) (pd_glob (v := .int 60) (d := .int 60) (by rfl) (rel_PIECE_DIGITS T) (fun _ _ => rfl)))))))
    (s_cons (s_append 2 (pd_strc (by rfl) T.n_str (pa_consD (pd_var 1) pa_nilD)))
    (s_cons (s_set 4 sc_integer_text.nd (pd_ifD (pt_c cm_lt (pd_var 0) pd_int) pd_str pd_str))
    (s_one (s_ret (pd_add (pd_var 4) (pd_join pd_str (pd_l (pl_rev (pd_var 2)))))))))))))
theorem cl_integer_text (T : Tx P w K mg base cs) : ClR P w K mg base "integer_text" 1 (m_integer_text K cs) := by
  obtain ⟨a, fd, F, hm⟩ := T.F_integer_text
  exact cl_of (ok_integer_text T F) hm F.kp (binds_all F (fun kV doc pm an cdv ct us hl => match us, hl with | [_], _ => rfl))
noncomputable def b_exact_text (K : PySem.W.Frag) (cs : Cs) : FD.Env → SOut :=
  (sSeq (sIf (t2 (e2 (eVar 0) (eC (.int 1)) gIx) (eC (.int 1)) eqD) (sRet (eCallR (m_integer_text K cs) (aCons (e2 (eVar 0) (eC (.int 0)) gIx) aNil))) sNext)
    (sRet (eJ (jC (e1 (eCallR (m_integer_text K cs) (aCons (e2 (eVar 0) (eC (.int 0)) gIx) aNil)) gFmt) (jC (eC (.str "/")) (jC (e1 (eCallR (m_integer_text K cs) (aCons (e2 (eVar 0) (eC (.int 1)) gIx) aNil)) gFmt) jN))))))
theorem sc_exact_text : FnScope ["a"] ["a"] (defScope s_exact_text) := ⟨rfl, rfl, rfl, by decide +kernel, rfl, by decide +kernel, by decide +kernel⟩
noncomputable def m_exact_text (K : PySem.W.Frag) (cs : Cs) : List Dt → Out Dt := argN 1 (runD 1 (b_exact_text K cs))
theorem ok_exact_text (T : Tx P w K mg base cs) {a : Addr} {fd : FuncData} (F : FunD K "exact_text" "exact_text" (defArgs s_exact_text) (defBody s_exact_text) (defScope s_exact_text) [] [] a fd) : FnOk P w K mg base (L2.CX P w) 2 a fd ["a"] (spD K 1 (runD 1 (b_exact_text K cs))) :=
  def_okD F sc_exact_text (fun cdv A outer s H E hr =>
    (s_cons (s_if (pt_c (cm_eq (u64 hr)) (pd_ixv 0 pd_int) pd_int) (s_one (s_ret (pd_callR (cl_integer_text T) (takes_of (by rfl) (by rfl) (by rfl) (by rfl)) hr (by decide) (by rfl) (pa_consD (pd_ixv 0 pd_int) pa_nilD)))) s_nil)
    (s_one (s_ret (pd_joined (pj_cons (pd_fmt (pd_callR (cl_integer_text T) (takes_of (by rfl) (by rfl) (by rfl) (by rfl)) hr (by decide) (by rfl) (pa_consD (pd_ixv 0 pd_int) pa_nilD))) (pj_cons pd_str (pj_cons (pd_fmt (pd_callR (cl_integer_text T) (takes_of (by rfl) (by rfl) (by rfl) (by rfl)) hr (by decide) (by rfl) (pa_consD (pd_ixv 0 pd_int) pa_nilD))) pj_nil))) (jC_str (jC_str (jC_str jN_str))))))))
theorem cl_exact_text (T : Tx P w K mg base cs) : ClR P w K mg base "exact_text" 2 (m_exact_text K cs) := by
  obtain ⟨a, fd, F, hm⟩ := T.F_exact_text
  exact cl_of (ok_exact_text T F) hm F.kp (binds_all F (fun kV doc pm an cdv ct us hl => match us, hl with | [_], _ => rfl))
noncomputable def b__law_cell (K : PySem.W.Frag) (cs : Cs) : FD.Env → SOut :=
  (sSeq (sIf (t2 (eVar 1) (eB gLen (aCons (eVar 0) aNil)) (cI fun i j => decide (i < j))) (sRet (eB gIntA (aCons (e2 (eVar 0) (eVar 1) gIx) aNil))) sNext)
    (sSeq (sSet 2 (eC (.int 0)) [])
    (sSeq (sFor (uName 3) (oSeq (eCut (eVar 0) oNone (oInt (eC (.int 8))))) [0]
    (sSet 2 (e2 (eB gIntA (aCons (e2 (e2 (e2 (eVar 2) (eC (.int 48271)) (gI mulB (· * ·))) (eB gIntA (aCons (eVar 3) aNil)) gAdd) (eC (.int 1)) gAdd) aNil)) (eC (.int 2147483647)) (gI nzB Int.fmod)) []))
    (sSeq (sSet 4 (e2 (eB gIntA (aCons (e2 (e2 (e2 (eVar 2) (eC (.int 69621)) (gI mulB (· * ·))) (e2 (e2 (eVar 1) (eC (.int 1)) gAdd) (eC (.int 1103515245)) (gI mulB (· * ·))) gAdd) (eC (.int 12345)) gAdd) aNil)) (eC (.int 2147483647)) (gI nzB Int.fmod)) [])
    (sRet (e2 (eB gIntA (aCons (e2 (e2 (eB gIntA (aCons (eVar 4) aNil)) (eVar 4) (gI mulB (· * ·))) (eVar 1) gAdd) aNil)) (eC (.int 2147483629)) (gI nzB Int.fmod)))))))
theorem sc__law_cell : FnScope ["_law_script", "_law_k", "_law_spare", "_law_cell_here", "_law_once"] ["_law_script", "_law_k"] (defScope s__law_cell) := ⟨rfl, rfl, rfl, by decide +kernel, rfl, by decide +kernel, by decide +kernel⟩
noncomputable def m__law_cell (K : PySem.W.Frag) (cs : Cs) : List Dt → Out Dt := argN 2 (runD 5 (b__law_cell K cs))
theorem ok__law_cell (T : Tx P w K mg base cs) {a : Addr} {fd : FuncData} (F : FunD K "_law_cell" "_law_cell" (defArgs s__law_cell) (defBody s__law_cell) (defScope s__law_cell) [] [] a fd) : FnOk P w K mg base (L2.CX P w) 1 a fd ["_law_script", "_law_k"] (spD K 2 (runD 5 (b__law_cell K cs))) :=
  def_okD F sc__law_cell (fun cdv A outer s H E hr =>
    (s_cons (s_if (pt_c cm_lt (pd_var 1) (pd_len (by rfl) T.n_len (pa_consD (pd_var 0) pa_nilD))) (s_one (s_ret (pd_intA (by rfl) T.n_int (pa_consD (pd_ixv 0 (pd_var 1)) pa_nilD)))) s_nil)
    (s_cons (s_set 2 sc__law_cell.nd pd_int)
    (s_cons (s_for (passes_of (by rfl)) (by rfl) (pi_seqD (pd_cut (pd_var 0) po_noneD (po_someD pd_int))) (g_name 3 sc__law_cell.nd)
    (s_one (s_set 2 sc__law_cell.nd (pd_mod (pd_intA (by rfl) T.n_int (pa_consD (pd_add (pd_add (pd_mul (pd_var 2) pd_int) (pd_intA (by rfl) T.n_int (pa_consD (pd_var 3) pa_nilD))) pd_int) pa_nilD)) pd_int))))
    (s_cons (s_set 4 sc__law_cell.nd (pd_mod (pd_intA (by rfl) T.n_int (pa_consD (pd_add (pd_add (pd_mul (pd_var 2) pd_int) (pd_mul (pd_add (pd_var 1) pd_int) pd_int)) pd_int) pa_nilD)) pd_int))
    (s_one (s_ret (pd_mod (pd_intA (by rfl) T.n_int (pa_consD (pd_add (pd_mul (pd_intA (by rfl) T.n_int (pa_consD (pd_var 4) pa_nilD)) (pd_var 4)) (pd_var 1)) pa_nilD)) pd_int))))))))
theorem cl__law_cell (T : Tx P w K mg base cs) : ClR P w K mg base "_law_cell" 1 (m__law_cell K cs) := by
  obtain ⟨a, fd, F, hm⟩ := T.F__law_cell
  exact cl_of (ok__law_cell T F) hm F.kp (binds_all F (fun kV doc pm an cdv ct us hl => match us, hl with | [_, _], _ => rfl))
noncomputable def b__law_shared (K : PySem.W.Frag) (cs : Cs) : FD.Env → SOut :=
  (sSeq (sSet 0 (eB gAbs (aCons (eVar 0) aNil)) [])
    (sSeq (sSet 1 (eB gAbs (aCons (eVar 1) aNil)) [])
    (sSeq (sFor (uName 2) (oRange (aCons (eC (.int 600)) aNil)) []
    (sSeq (sIf (t2 (eVar 1) (eC (.int 0)) eqD) (sRet (eVar 0)) sNext)
    (sSeq (sSet 3 (e2 (eB gIntA (aCons (eVar 0) aNil)) (eVar 1) (gI nzB Int.fmod)) [])
    (sSeq (sSet 0 (eVar 1) [1])
    (sSet 1 (eVar 3) [3])))))
    (sRet (eC (.int 0))))))
theorem sc__law_shared : FnScope ["_law_a", "_law_b", "_law_turn", "_law_rest"] ["_law_a", "_law_b"] (defScope s__law_shared) := ⟨rfl, rfl, rfl, by decide +kernel, rfl, by decide +kernel, by decide +kernel⟩
noncomputable def m__law_shared (K : PySem.W.Frag) (cs : Cs) : List Dt → Out Dt := argN 2 (runD 4 (b__law_shared K cs))
theorem ok__law_shared (T : Tx P w K mg base cs) {a : Addr} {fd : FuncData} (F : FunD K "_law_shared" "_law_shared" (defArgs s__law_shared) (defBody s__law_shared) (defScope s__law_shared) [] [] a fd) : FnOk P w K mg base (L2.CX P w) 1 a fd ["_law_a", "_law_b"] (spD K 2 (runD 4 (b__law_shared K cs))) :=
  def_okD F sc__law_shared (fun cdv A outer s H E hr =>
    (s_cons (s_set 0 sc__law_shared.nd (pd_abs (by rfl) T.n_abs (pa_consD (pd_var 0) pa_nilD)))
    (s_cons (s_set 1 sc__law_shared.nd (pd_abs (by rfl) T.n_abs (pa_consD (pd_var 1) pa_nilD)))
    (s_cons (s_for (passes_of (by rfl)) (by rfl) (pi_rng1D (by rfl) T.n_range pd_int) (g_name 2 sc__law_shared.nd)
    (s_cons (s_if (pt_c (cm_eq (u64 hr)) (pd_var 1) pd_int) (s_one (s_ret (pd_var 0))) s_nil)
    (s_cons (s_set 3 sc__law_shared.nd (pd_mod (pd_intA (by rfl) T.n_int (pa_consD (pd_var 0) pa_nilD)) (pd_var 1)))
    (s_cons (s_set 0 sc__law_shared.nd (pd_var 1))
    (s_one (s_set 1 sc__law_shared.nd (pd_var 3)))))))
    (s_one (s_ret pd_int))))))
theorem cl__law_shared (T : Tx P w K mg base cs) : ClR P w K mg base "_law_shared" 1 (m__law_shared K cs) := by
  obtain ⟨a, fd, F, hm⟩ := T.F__law_shared
  exact cl_of (ok__law_shared T F) hm F.kp (binds_all F (fun kV doc pm an cdv ct us hl => match us, hl with | [_, _], _ => rfl))
noncomputable def b__law_number (K : PySem.W.Frag) (cs : Cs) : FD.Env → SOut :=
  (sSeq (sSet 1 (e2 (eL (lLst (aCons (e2 (eC (.int 10)) (eC (.int 40)) (gI powB fun i j => i ^ j.toNat)) (aCons (eC (.int 10)) (aCons (eC (.int 100)) (aCons (e2 (eC (.int 10)) (eC (.int 9)) (gI powB fun i j => i ^ j.toNat)) (aCons (e2 (eC (.int 10)) (eC (.int 39)) (gI powB fun i j => i ^ j.toNat)) aNil))))))) (e2 (eB gIntA (aCons (eCallR (m__law_cell K cs) (aCons (eVar 0) (aCons (eC (.int 2)) aNil))) aNil)) (eC (.int 5)) (gI nzB Int.fmod)) gIx) [])
    (sSeq (sSet 2 (e2 (e2 (eB gIntA (aCons (eCallR (m__law_cell K cs) (aCons (eVar 0) (aCons (eC (.int 0)) aNil))) aNil)) (eC (.int 2)) (gI divB Int.fdiv)) (eVar 1) (gI nzB Int.fmod)) [])
    (sSeq (sSet 3 (eC (.int 1)) [])
    (sSeq (sIf (t2 (e2 (eB gIntA (aCons (eCallR (m__law_cell K cs) (aCons (eVar 0) (aCons (eC (.int 3)) aNil))) aNil)) (eC (.int 3)) (gI nzB Int.fmod)) (eC (.int 0)) (cI fun i j => decide (j < i))) (sSet 3 (e2 (eC (.int 1)) (e2 (eB gIntA (aCons (eCallR (m__law_cell K cs) (aCons (eVar 0) (aCons (eC (.int 1)) aNil))) aNil)) (e2 (eVar 1) (eC (.int 1)) (gI0 (· - ·))) (gI nzB Int.fmod)) gAdd) []) sNext)
    (sSeq (sSet 4 (e2 (e2 (eC (.int 10)) (eC (.int 40)) (gI powB fun i j => i ^ j.toNat)) (e2 (eC (.int 1)) (e2 (eB gIntA (aCons (eCallR (m__law_cell K cs) (aCons (eVar 0) (aCons (eC (.int 5)) aNil))) aNil)) (e2 (eC (.int 10)) (eC (.int 20)) (gI powB fun i j => i ^ j.toNat)) (gI nzB Int.fmod)) gAdd) (gI mulB (· * ·))) [])
    (sSeq (sIf (t2 (e2 (eB gIntA (aCons (eCallR (m__law_cell K cs) (aCons (eVar 0) (aCons (eC (.int 4)) aNil))) aNil)) (eC (.int 8)) (gI nzB Int.fmod)) (eC (.int 6)) eqD) (sSet 2 (e2 (eVar 2) (eVar 4) gAdd) [2, 4]) sNext)
    (sSeq (sIf (t2 (e2 (eB gIntA (aCons (eCallR (m__law_cell K cs) (aCons (eVar 0) (aCons (eC (.int 4)) aNil))) aNil)) (eC (.int 8)) (gI nzB Int.fmod)) (eC (.int 7)) eqD) (sSet 3 (e2 (eVar 3) (eVar 4) gAdd) [3, 4]) sNext)
    (sSeq (sIf (t2 (e2 (eB gIntA (aCons (eCallR (m__law_cell K cs) (aCons (eVar 0) (aCons (eC (.int 0)) aNil))) aNil)) (eC (.int 2)) (gI nzB Int.fmod)) (eC (.int 1)) eqD) (sSet 2 (e1 (eVar 2) gNeg) [2]) sNext)
    (sSeq (sSet 5 (eCallR (m__law_shared K cs) (aCons (eVar 2) (aCons (eVar 3) aNil))) [2, 3])
    (sRet (eTup (aCons (e2 (eVar 2) (eVar 5) (gI divB Int.fdiv)) (aCons (e2 (eVar 3) (eVar 5) (gI divB Int.fdiv)) aNil)))))))))))))
theorem sc__law_number : FnScope ["_law_script", "_law_limit", "_law_n", "_law_d", "_law_more", "_law_shared_here"] ["_law_script"] (defScope s__law_number) := ⟨rfl, rfl, rfl, by decide +kernel, rfl, by decide +kernel, by decide +kernel⟩
noncomputable def m__law_number (K : PySem.W.Frag) (cs : Cs) : List Dt → Out Dt := argN 1 (runD 6 (b__law_number K cs))
theorem ok__law_number (T : Tx P w K mg base cs) {a : Addr} {fd : FuncData} (F : FunD K "_law_number" "_law_number" (defArgs s__law_number) (defBody s__law_number) (defScope s__law_number) [] [] a fd) : FnOk P w K mg base (L2.CX P w) 2 a fd ["_law_script"] (spD K 1 (runD 6 (b__law_number K cs))) :=
  def_okD F sc__law_number (fun cdv A outer s H E hr =>
    (s_cons (s_set 1 sc__law_number.nd (pd_ix (pd_l (pl_lst (pa_consD (pd_pow pd_int pd_int) (pa_consD pd_int (pa_consD pd_int (pa_consD (pd_pow pd_int pd_int) (pa_consD (pd_pow pd_int pd_int) pa_nilD))))))) (pd_mod (pd_intA (by rfl) T.n_int (pa_consD (pd_callR (cl__law_cell T) (takes_of (by rfl) (by rfl) (by rfl) (by rfl)) hr (by decide) (by rfl) (pa_consD (pd_var 0) (pa_consD pd_int pa_nilD))) pa_nilD)) pd_int)))
    (s_cons (s_set 2 sc__law_number.nd (pd_mod (pd_fdiv (pd_intA (by rfl) T.n_int (pa_consD (pd_callR (cl__law_cell T) (takes_of (by rfl) (by rfl) (by rfl) (by rfl)) hr (by decide) (by rfl) (pa_consD (pd_var 0) (pa_consD pd_int pa_nilD))) pa_nilD)) pd_int) (pd_var 1)))
    (s_cons (s_set 3 sc__law_number.nd pd_int)
    (s_cons (s_if (pt_c cm_gt (pd_mod (pd_intA (by rfl) T.n_int (pa_consD (pd_callR (cl__law_cell T) (takes_of (by rfl) (by rfl) (by rfl) (by rfl)) hr (by decide) (by rfl) (pa_consD (pd_var 0) (pa_consD pd_int pa_nilD))) pa_nilD)) pd_int) pd_int) (s_one (s_set 3 sc__law_number.nd (pd_add pd_int (pd_mod (pd_intA (by rfl) T.n_int (pa_consD (pd_callR (cl__law_cell T) (takes_of (by rfl) (by rfl) (by rfl) (by rfl)) hr (by decide) (by rfl) (pa_consD (pd_var 0) (pa_consD pd_int pa_nilD))) pa_nilD)) (pd_sub (pd_var 1) pd_int))))) s_nil)
    (s_cons (s_set 4 sc__law_number.nd (pd_mul (pd_pow pd_int pd_int) (pd_add pd_int (pd_mod (pd_intA (by rfl) T.n_int (pa_consD (pd_callR (cl__law_cell T) (takes_of (by rfl) (by rfl) (by rfl) (by rfl)) hr (by decide) (by rfl) (pa_consD (pd_var 0) (pa_consD pd_int pa_nilD))) pa_nilD)) (pd_pow pd_int pd_int)))))
    (s_cons (s_if (pt_c (cm_eq (u64 hr)) (pd_mod (pd_intA (by rfl) T.n_int (pa_consD (pd_callR (cl__law_cell T) (takes_of (by rfl) (by rfl) (by rfl) (by rfl)) hr (by decide) (by rfl) (pa_consD (pd_var 0) (pa_consD pd_int pa_nilD))) pa_nilD)) pd_int) pd_int) (s_one (s_set 2 sc__law_number.nd (pd_add (pd_var 2) (pd_var 4)))) s_nil)
    (s_cons (s_if (pt_c (cm_eq (u64 hr)) (pd_mod (pd_intA (by rfl) T.n_int (pa_consD (pd_callR (cl__law_cell T) (takes_of (by rfl) (by rfl) (by rfl) (by rfl)) hr (by decide) (by rfl) (pa_consD (pd_var 0) (pa_consD pd_int pa_nilD))) pa_nilD)) pd_int) pd_int) (s_one (s_set 3 sc__law_number.nd (pd_add (pd_var 3) (pd_var 4)))) s_nil)
    (s_cons (s_if (pt_c (cm_eq (u64 hr)) (pd_mod (pd_intA (by rfl) T.n_int (pa_consD (pd_callR (cl__law_cell T) (takes_of (by rfl) (by rfl) (by rfl) (by rfl)) hr (by decide) (by rfl) (pa_consD (pd_var 0) (pa_consD pd_int pa_nilD))) pa_nilD)) pd_int) pd_int) (s_one (s_set 2 sc__law_number.nd (pd_neg (pd_var 2)))) s_nil)
    (s_cons (s_set 5 sc__law_number.nd (pd_callR (cl__law_shared T) (takes_of (by rfl) (by rfl) (by rfl) (by rfl)) hr (by decide) (by rfl) (pa_consD (pd_var 2) (pa_consD (pd_var 3) pa_nilD))))
    (s_one (s_ret (pd_tup (pa_consD (pd_fdiv (pd_var 2) (pd_var 5)) (pa_consD (pd_fdiv (pd_var 3) (pd_var 5)) pa_nilD)))))))))))))))
theorem cl__law_number (T : Tx P w K mg base cs) : ClR P w K mg base "_law_number" 2 (m__law_number K cs) := by
  obtain ⟨a, fd, F, hm⟩ := T.F__law_number
  exact cl_of (ok__law_number T F) hm F.kp (binds_all F (fun kV doc pm an cdv ct us hl => match us, hl with | [_], _ => rfl))
noncomputable def b__law_text (K : PySem.W.Frag) (cs : Cs) : FD.Env → SOut :=
  (sSeq (sSet 1 (eB gStr (aCons (e2 (eVar 0) (eC (.int 0)) gIx) aNil)) [])
    (sSeq (sIf (t2 (e2 (eVar 0) (eC (.int 1)) gIx) (eC (.int 1)) neD) (sSet 1 (e2 (e2 (eVar 1) (eC (.str "/")) gAdd) (eB gStr (aCons (e2 (eVar 0) (eC (.int 1)) gIx) aNil)) gAdd) [1]) sNext)
    (sRet (eVar 1))))
theorem sc__law_text : FnScope ["_law_number_here", "_law_text_here"] ["_law_number_here"] (defScope s__law_text) := ⟨rfl, rfl, rfl, by decide +kernel, rfl, by decide +kernel, by decide +kernel⟩
noncomputable def m__law_text (K : PySem.W.Frag) (cs : Cs) : List Dt → Out Dt := argN 1 (runD 2 (b__law_text K cs))
theorem ok__law_text (T : Tx P w K mg base cs) {a : Addr} {fd : FuncData} (F : FunD K "_law_text" "_law_text" (defArgs s__law_text) (defBody s__law_text) (defScope s__law_text) [] [] a fd) : FnOk P w K mg base (L2.CX P w) 1 a fd ["_law_number_here"] (spD K 1 (runD 2 (b__law_text K cs))) :=
  def_okD F sc__law_text (fun cdv A outer s H E hr =>
    (s_cons (s_set 1 sc__law_text.nd (pd_strc (by rfl) T.n_str (pa_consD (pd_ixv 0 pd_int) pa_nilD)))
    (s_cons (s_if (pt_c (cm_ne (u64 hr)) (pd_ixv 0 pd_int) pd_int) (s_one (s_set 1 sc__law_text.nd (pd_add (pd_add (pd_var 1) pd_str) (pd_strc (by rfl) T.n_str (pa_consD (pd_ixv 0 pd_int) pa_nilD))))) s_nil)
    (s_one (s_ret (pd_var 1))))))
theorem cl__law_text (T : Tx P w K mg base cs) : ClR P w K mg base "_law_text" 1 (m__law_text K cs) := by
  obtain ⟨a, fd, F, hm⟩ := T.F__law_text
  exact cl_of (ok__law_text T F) hm F.kp (binds_all F (fun kV doc pm an cdv ct us hl => match us, hl with | [_], _ => rfl))
noncomputable def b__law_changed (K : PySem.W.Frag) (cs : Cs) : FD.Env → SOut :=
  (sSeq (sSet 4 (eC (.str "0123456789/-+._ab \n")) [])
    (sSeq (sSet 5 (e2 (eB gIntA (aCons (eVar 2) aNil)) (eC (.int 128)) (gI divB Int.fdiv)) [])
    (sSeq (sSet 6 (e2 (eVar 4) (e2 (eVar 5) (eC (.int 19)) (gI nzB Int.fmod)) gIx) [])
    (sSeq (sSet 7 (e2 (e2 (eB gIntA (aCons (eVar 2) aNil)) (eC (.int 128)) (gI nzB Int.fmod)) (e2 (eB gLen (aCons (eVar 0) aNil)) (eC (.int 1)) gAdd) (gI nzB Int.fmod)) [])
    (sSeq (sIf (t2 (eVar 1) (eC (.int 0)) eqD) (sRet (e2 (e2 (eCut (eVar 0) oNone (oInt (eVar 7))) (eVar 6) gAdd) (eCut (eVar 0) (oInt (eVar 7)) oNone) gAdd)) sNext)
    (sSeq (sIf (t2 (eVar 1) (eC (.int 1)) eqD) (sRet (e2 (eCut (eVar 0) oNone (oInt (eVar 7))) (eCut (eVar 0) (oInt (e2 (eVar 7) (eC (.int 1)) gAdd)) oNone) gAdd)) sNext)
    (sSeq (sIf (t2 (eVar 1) (eC (.int 2)) eqD) (sRet (e2 (e2 (eCut (eVar 0) oNone (oInt (eVar 7))) (eVar 6) gAdd) (eCut (eVar 0) (oInt (e2 (eVar 7) (eC (.int 1)) gAdd)) oNone) gAdd)) sNext)
    (sSeq (sIf (t2 (eVar 1) (eC (.int 3)) eqD) (sRet (e2 (eCut (eVar 0) oNone (oInt (e2 (eVar 7) (eC (.int 1)) gAdd))) (eCut (eVar 0) (oInt (eVar 7)) oNone) gAdd)) sNext)
    (sSeq (sIf (t2 (eVar 1) (eC (.int 4)) eqD) (sSeq (sSet 8 (e2 (eC (.int 2)) (e2 (eVar 5) (eC (.int 8)) (gI nzB Int.fmod)) gAdd) [])
    (sRet (e2 (e2 (eB gStr (aCons (e2 (e2 (eVar 3) (eC (.int 0)) gIx) (eVar 8) (gI mulB (· * ·))) aNil)) (eC (.str "/")) gAdd) (eB gStr (aCons (e2 (e2 (eVar 3) (eC (.int 1)) gIx) (eVar 8) (gI mulB (· * ·))) aNil)) gAdd))) sNext)
    (sSeq (sIf (t2 (eVar 1) (eC (.int 5)) eqD) (sRet (e2 (eVar 0) (e2 (eL (lLst (aCons (eC (.str "/1")) (aCons (eC (.str " ")) (aCons (eC (.str "\n")) (aCons (eC (.str "/")) (aCons (eC (.str "0")) (aCons (eC (.str "/0")) (aCons (eC (.str "/2")) (aCons (eC (.str ".0")) aNil)))))))))) (e2 (eVar 5) (eC (.int 8)) (gI nzB Int.fmod)) gIx) gAdd)) sNext)
    (sSeq (sIf (t2 (eVar 1) (eC (.int 6)) eqD) (sRet (e2 (e2 (eL (lLst (aCons (eC (.str "-")) (aCons (eC (.str "+")) (aCons (eC (.str "0")) (aCons (eC (.str " ")) (aCons (eC (.str "\n")) (aCons (eC (.str "--")) (aCons (eC (.str "/")) (aCons (eC (.str "00")) aNil)))))))))) (e2 (eVar 5) (eC (.int 8)) (gI nzB Int.fmod)) gIx) (eVar 0) gAdd)) sNext)
    (sSeq (sIf (t2 (eVar 1) (eC (.int 7)) eqD) (sRet (e2 (e2 (eCut (eVar 0) oNone (oInt (eVar 7))) (e2 (eC (.str "7")) (e2 (eL (lLst (aCons (eC (.int 40)) (aCons (eC (.int 41)) (aCons (eC (.int 42)) (aCons (eC (.int 5000)) aNil)))))) (e2 (eVar 5) (eC (.int 4)) (gI nzB Int.fmod)) gIx) gMulS) gAdd) (eCut (eVar 0) (oInt (eVar 7)) oNone) gAdd)) sNext)
    (sSeq (sIf (t2 (eVar 1) (eC (.int 8)) eqD) (sRet (e2 (eC (.str "7")) (e2 (eC (.int 39)) (e2 (eVar 5) (eC (.int 3)) (gI nzB Int.fmod)) gAdd) gMulS)) sNext)
    (sSeq (sIf (t2 (eVar 1) (eC (.int 9)) eqD) (sRet (e2 (eC (.str "-5/")) (e2 (eC (.str "7")) (e2 (eC (.int 39)) (e2 (eVar 5) (eC (.int 3)) (gI nzB Int.fmod)) gAdd) gMulS) gAdd)) sNext)
    (sSeq (sIf (t2 (e2 (eVar 0) (eC (.int 0)) gIx) (eC (.str "-")) eqD) (sRet (eCut (eVar 0) (oInt (eC (.int 1))) oNone)) sNext)
    (sRet (e2 (eC (.str "-")) (eVar 0) gAdd)))))))))))))))))
theorem sc__law_changed : FnScope ["_law_text_here", "_law_way", "_law_place", "_law_number_here", "_law_signs", "_law_pick", "_law_sign", "_law_at", "_law_factor"] ["_law_text_here", "_law_way", "_law_place", "_law_number_here"] (defScope s__law_changed) := ⟨rfl, rfl, rfl, by decide +kernel, rfl, by decide +kernel, by decide +kernel⟩
noncomputable def m__law_changed (K : PySem.W.Frag) (cs : Cs) : List Dt → Out Dt := argN 4 (runD 9 (b__law_changed K cs))
theorem ok__law_changed (T : Tx P w K mg base cs) {a : Addr} {fd : FuncData} (F : FunD K "_law_changed" "_law_changed" (defArgs s__law_changed) (defBody s__law_changed) (defScope s__law_changed) [] [] a fd) : FnOk P w K mg base (L2.CX P w) 1 a fd ["_law_text_here", "_law_way", "_law_place", "_law_number_here"] (spD K 4 (runD 9 (b__law_changed K cs))) :=
  def_okD F sc__law_changed (fun cdv A outer s H E hr =>
    (s_cons (s_set 4 sc__law_changed.nd pd_str)
    (s_cons (s_set 5 sc__law_changed.nd (pd_fdiv (pd_intA (by rfl) T.n_int (pa_consD (pd_var 2) pa_nilD)) pd_int))
    (s_cons (s_set 6 sc__law_changed.nd (pd_ixv 4 (pd_mod (pd_var 5) pd_int)))
    (s_cons (s_set 7 sc__law_changed.nd (pd_mod (pd_mod (pd_intA (by rfl) T.n_int (pa_consD (pd_var 2) pa_nilD)) pd_int) (pd_add (pd_len (by rfl) T.n_len (pa_consD (pd_var 0) pa_nilD)) pd_int)))
    (s_cons (s_if (pt_c (cm_eq (u64 hr)) (pd_var 1) pd_int) (s_one (s_ret (pd_add (pd_add (pd_cut (pd_var 0) po_noneD (po_someD (pd_var 7))) (pd_var 6)) (pd_cut (pd_var 0) (po_someD (pd_var 7)) po_noneD)))) s_nil)
    (s_cons (s_if (pt_c (cm_eq (u64 hr)) (pd_var 1) pd_int) (s_one (s_ret (pd_add (pd_cut (pd_var 0) po_noneD (po_someD (pd_var 7))) (pd_cut (pd_var 0) (po_someD (pd_add (pd_var 7) pd_int)) po_noneD)))) s_nil)
    (s_cons (s_if (pt_c (cm_eq (u64 hr)) (pd_var 1) pd_int) (s_one (s_ret (pd_add (pd_add (pd_cut (pd_var 0) po_noneD (po_someD (pd_var 7))) (pd_var 6)) (pd_cut (pd_var 0) (po_someD (pd_add (pd_var 7) pd_int)) po_noneD)))) s_nil)
    (s_cons (s_if (pt_c (cm_eq (u64 hr)) (pd_var 1) pd_int) (s_one (s_ret (pd_add (pd_cut (pd_var 0) po_noneD (po_someD (pd_add (pd_var 7) pd_int))) (pd_cut (pd_var 0) (po_someD (pd_var 7)) po_noneD)))) s_nil)
    (s_cons (s_if (pt_c (cm_eq (u64 hr)) (pd_var 1) pd_int) (s_cons (s_set 8 sc__law_changed.nd (pd_add pd_int (pd_mod (pd_var 5) pd_int)))
    (s_one (s_ret (pd_add (pd_add (pd_strc (by rfl) T.n_str (pa_consD (pd_mul (pd_ixv 3 pd_int) (pd_var 8)) pa_nilD)) pd_str) (pd_strc (by rfl) T.n_str (pa_consD (pd_mul (pd_ixv 3 pd_int) (pd_var 8)) pa_nilD)))))) s_nil)
    (s_cons (s_if (pt_c (cm_eq (u64 hr)) (pd_var 1) pd_int) (s_one (s_ret (pd_add (pd_var 0) (pd_ix (pd_l (pl_lst (pa_consD pd_str (pa_consD pd_str (pa_consD pd_str (pa_consD pd_str (pa_consD pd_str (pa_consD pd_str (pa_consD pd_str (pa_consD pd_str pa_nilD)))))))))) (pd_mod (pd_var 5) pd_int))))) s_nil)
    (s_cons (s_if (pt_c (cm_eq (u64 hr)) (pd_var 1) pd_int) (s_one (s_ret (pd_add (pd_ix (pd_l (pl_lst (pa_consD pd_str (pa_consD pd_str (pa_consD pd_str (pa_consD pd_str (pa_consD pd_str (pa_consD pd_str (pa_consD pd_str (pa_consD pd_str pa_nilD)))))))))) (pd_mod (pd_var 5) pd_int)) (pd_var 0)))) s_nil)
    (s_cons (s_if (pt_c (cm_eq (u64 hr)) (pd_var 1) pd_int) (s_one (s_ret (pd_add (pd_add (pd_cut (pd_var 0) po_noneD (po_someD (pd_var 7))) (pd_mulS pd_str (pd_ix (pd_l (pl_lst (pa_consD pd_int (pa_consD pd_int (pa_consD pd_int (pa_consD pd_int pa_nilD)))))) (pd_mod (pd_var 5) pd_int)))) (pd_cut (pd_var 0) (po_someD (pd_var 7)) po_noneD)))) s_nil)
    (s_cons (s_if (pt_c (cm_eq (u64 hr)) (pd_var 1) pd_int) (s_one (s_ret (pd_mulS pd_str (pd_add pd_int (pd_mod (pd_var 5) pd_int))))) s_nil)
    (s_cons (s_if (pt_c (cm_eq (u64 hr)) (pd_var 1) pd_int) (s_one (s_ret (pd_add pd_str (pd_mulS pd_str (pd_add pd_int (pd_mod (pd_var 5) pd_int)))))) s_nil)
    (s_cons (s_if (pt_c (cm_eq (u64 hr)) (pd_ixv 0 pd_int) pd_str) (s_one (s_ret (pd_cut (pd_var 0) (po_someD pd_int) po_noneD))) s_nil)
    (s_one (s_ret (pd_add pd_str (pd_var 0))))))))))))))))))))
theorem cl__law_changed (T : Tx P w K mg base cs) : ClR P w K mg base "_law_changed" 1 (m__law_changed K cs) := by
  obtain ⟨a, fd, F, hm⟩ := T.F__law_changed
  exact cl_of (ok__law_changed T F) hm F.kp (binds_all F (fun kV doc pm an cdv ct us hl => match us, hl with | [_, _, _, _], _ => rfl))
noncomputable def b__law_odd (K : PySem.W.Frag) (cs : Cs) : FD.Env → SOut :=
  (sSeq (sSetL 1 (lLst (aCons (eC (.str "")) (aCons (eC (.str "-")) (aCons (eC (.str "/")) (aCons (eC (.str "-0")) (aCons (eC (.str "+3")) (aCons (eC (.str "3/1")) (aCons (eC (.str "2/4")) (aCons (eC (.str "0/1")) (aCons (eC (.str "0/5")) (aCons (eC (.str "1/0")) (aCons (eC (.str "0/0")) (aCons (eC (.str "1/-2")) (aCons (eC (.str "-1/-2")) (aCons (eC (.str "--1")) (aCons (eC (.str "1//2")) (aCons (eC (.str "1/2/3")) aNil))))))))))))))))) [])
    (sSeq (sSet 1 (e2 (eVar 1) (eL (lLst (aCons (eC (.str "1.5")) (aCons (eC (.str "1_000")) (aCons (eC (.str "00")) (aCons (eC (.str "01")) (aCons (eC (.str " 1")) (aCons (eC (.str "1 ")) (aCons (eC (.str "1\n")) (aCons (eC (.str "\n1")) (aCons (eC (.str "1e3")) (aCons (eC (.str "a")) (aCons (eC (.str "-/2")) (aCons (eC (.str "1/")) (aCons (eC (.str "/2")) (aCons (eC (.str "-1/")) aNil)))))))))))))))) gAdd) [1])
    (sSeq (sSet 1 (e2 (eVar 1) (eL (lLst (aCons (eC (.str "-0/1")) (aCons (eC (.str "1/02")) (aCons (eC (.str "1/00")) (aCons (eC (.str "-01/2")) (aCons (eC (.str "1 /2")) (aCons (eC (.str "1/ 2")) (aCons (eC (.str "1/+2")) (aCons (eC (.str "- 1")) (aCons (eC (.str "-1/1")) (aCons (eC (.str "4/2")) aNil)))))))))))) gAdd) [1])
    (sRet (e2 (eVar 1) (e2 (eB gIntA (aCons (eVar 0) aNil)) (eC (.int 40)) (gI nzB Int.fmod)) gIx)))))
theorem sc__law_odd : FnScope ["_law_cell_here", "_law_texts"] ["_law_cell_here"] (defScope s__law_odd) := ⟨rfl, rfl, rfl, by decide +kernel, rfl, by decide +kernel, by decide +kernel⟩
noncomputable def m__law_odd (K : PySem.W.Frag) (cs : Cs) : List Dt → Out Dt := argN 1 (runD 2 (b__law_odd K cs))
theorem ok__law_odd (T : Tx P w K mg base cs) {a : Addr} {fd : FuncData} (F : FunD K "_law_odd" "_law_odd" (defArgs s__law_odd) (defBody s__law_odd) (defScope s__law_odd) [] [] a fd) : FnOk P w K mg base (L2.CX P w) 1 a fd ["_law_cell_here"] (spD K 1 (runD 2 (b__law_odd K cs))) :=
  def_okD F sc__law_odd (fun cdv A outer s H E hr =>
    (s_cons (s_setL 1 sc__law_odd.nd (pl_lst (pa_consD pd_str (pa_consD pd_str (pa_consD pd_str (pa_consD pd_str (pa_consD pd_str (pa_consD pd_str (pa_consD pd_str (pa_consD pd_str (pa_consD pd_str (pa_consD pd_str (pa_consD pd_str (pa_consD pd_str (pa_consD pd_str (pa_consD pd_str (pa_consD pd_str (pa_consD pd_str pa_nilD))))))))))))))))))
    (s_cons (s_set 1 sc__law_odd.nd (pd_add (pd_var 1) (pd_l (pl_lst (pa_consD pd_str (pa_consD pd_str (pa_consD pd_str (pa_consD pd_str (pa_consD pd_str (pa_consD pd_str (pa_consD pd_str (pa_consD pd_str (pa_consD pd_str (pa_consD pd_str (pa_consD pd_str (pa_consD pd_str (pa_consD pd_str (pa_consD pd_str pa_nilD))))))))))))))))))
    (s_cons (s_set 1 sc__law_odd.nd (pd_add (pd_var 1) (pd_l (pl_lst (pa_consD pd_str (pa_consD pd_str (pa_consD pd_str (pa_consD pd_str (pa_consD pd_str (pa_consD pd_str (pa_consD pd_str (pa_consD pd_str (pa_consD pd_str (pa_consD pd_str pa_nilD))))))))))))))
    (s_one (s_ret (pd_ixv 1 (pd_mod (pd_intA (by rfl) T.n_int (pa_consD (pd_var 0) pa_nilD)) pd_int))))))))
theorem cl__law_odd (T : Tx P w K mg base cs) : ClR P w K mg base "_law_odd" 1 (m__law_odd K cs) := by
  obtain ⟨a, fd, F, hm⟩ := T.F__law_odd
  exact cl_of (ok__law_odd T F) hm F.kp (binds_all F (fun kV doc pm an cdv ct us hl => match us, hl with | [_], _ => rfl))
noncomputable def b_exact (K : PySem.W.Frag) (cs : Cs) : FD.Env → SOut :=
  (sSeq (sIf (t2 (eVar 1) (eC (.int 0)) eqD) (sRaise cs.c_ZeroDenominator fn_ZeroDenominator g_ZeroDenominator aNil) sNext)
    (sSeq (sSet 2 (eB gGcd (aCons (eVar 0) (aCons (eVar 1) aNil))) [])
    (sSeq (sIf (t2 (eVar 1) (eC (.int 0)) (cI fun i j => decide (i < j))) (sSet 2 (e1 (eVar 2) gNeg) [2]) sNext)
    (sRet (eTup (aCons (e2 (eVar 0) (eVar 2) (gI divB Int.fdiv)) (aCons (e2 (eVar 1) (eVar 2) (gI divB Int.fdiv)) aNil)))))))
theorem sc_exact : FnScope ["n", "d", "common"] ["n", "d"] (defScope s_exact) := ⟨rfl, rfl, rfl, by decide +kernel, rfl, by decide +kernel, by decide +kernel⟩
noncomputable def m_exact (K : PySem.W.Frag) (cs : Cs) : List Dt → Out Dt := argD 2 [(.int 1)] (runD 3 (b_exact K cs))
theorem cl_exact (T : Tx P w K mg base cs) : ClR P w K mg base "exact" 3 (m_exact K cs) := by
  obtain ⟨a, fd, F, hm⟩ := T.F_exact
  exact cl_ofD1 (def_okD F sc_exact (fun cdv A outer s H E hr =>
    (s_cons (s_if (pt_c (cm_eq (u64 hr)) (pd_var 1) pd_int) (s_one (s_raise0 (by rfl) (mkc_ZeroDenominator T) (okv_ZeroDenominator K) (takes_of (by rfl) (by rfl) (by rfl) (by rfl)) hr (by decide) (by rfl))) s_nil)
    (s_cons (s_set 2 sc_exact.nd (pd_gcd (by rfl) T.n_gcd (pa_consD (pd_var 0) (pa_consD (pd_var 1) pa_nilD))))
    (s_cons (s_if (pt_c cm_lt (pd_var 1) pd_int) (s_one (s_set 2 sc_exact.nd (pd_neg (pd_var 2)))) s_nil)
    (s_one (s_ret (pd_tup (pa_consD (pd_fdiv (pd_var 0) (pd_var 2)) (pa_consD (pd_fdiv (pd_var 1) (pd_var 2)) pa_nilD)))))))))) hm F.kp (F.binds1 (ps := ["n", "d"]) 2 1 (by simp) rfl (fun T kV doc pm an cdv ct us its h1 h2 => match us, its, h1, h2 with | [_, _], [_], _, _ => ⟨_, rfl, rfl⟩))
    (F.binds1 (ps := ["n", "d"]) 1 0 (by simp) rfl (fun T kV doc pm an cdv ct us its h1 h2 => match us, its, h1, h2 with | [_], [_], _, _ => ⟨_, rfl, rfl⟩)) (fun _ _ => rfl) (by decide)
noncomputable def b_is_digits (K : PySem.W.Frag) (cs : Cs) : FD.Env → SOut :=
  (sRet (eAnd (eT (t2 (eB gLen (aCons (eVar 0) aNil)) (eC (.int 40)) (cI fun i j => decide (i ≤ j)))) (eAnd (eM0 (eVar 0) (gBl Txt.isascii)) (eM0 (eVar 0) (gBl Txt.isdigit)))))
theorem sc_is_digits : FnScope ["word"] ["word"] (defScope s_is_digits) := ⟨rfl, rfl, rfl, by decide +kernel, rfl, by decide +kernel, by decide +kernel⟩
noncomputable def m_is_digits (K : PySem.W.Frag) (cs : Cs) : List Dt → Out Dt := argN 1 (runD 1 (b_is_digits K cs))
theorem ok_is_digits (T : Tx P w K mg base cs) {a : Addr} {fd : FuncData} (F : FunD K "is_digits" "is_digits" (defArgs s_is_digits) (defBody s_is_digits) (defScope s_is_digits) [] [] a fd) : FnOk P w K mg base (L2.CX P w) 1 a fd ["word"] (spD K 1 (runD 1 (b_is_digits K cs))) :=
  def_okD F sc_is_digits (fun cdv A outer s H E hr =>
    (s_one (s_ret (pd_and (pd_c cm_le (pd_len (by rfl) T.n_len (pa_consD (pd_var 0) pa_nilD)) (pd_glob (v := .int 40) (d := .int 40) (by rfl) (rel_MOST_DIGITS T) (fun _ _ => rfl))) (pd_and (pd_isascii (pd_var 0)) (pd_one (pd_isdigit (pd_var 0))))))))
theorem cl_is_digits (T : Tx P w K mg base cs) : ClR P w K mg base "is_digits" 1 (m_is_digits K cs) := by
  obtain ⟨a, fd, F, hm⟩ := T.F_is_digits
  exact cl_of (ok_is_digits T F) hm F.kp (binds_all F (fun kV doc pm an cdv ct us hl => match us, hl with | [_], _ => rfl))
noncomputable def b_read_exact (K : PySem.W.Frag) (cs : Cs) : FD.Env → SOut :=
  (sSeq (sAsg (uTup (uCons (uName 1) (uCons (uName 2) (uCons (uName 3) uNil)))) (eM1 (eVar 0) (eC (.str "/")) gPart) [])
    (sSeq (sIf (tNotD (t1 (eVar 2) truD)) (sSet 3 (eC (.str "1")) []) sNext)
    (sSeq (sIf (tOrD (tNotD (t1 (eCallR (m_is_digits K cs) (aCons (eM1 (eVar 1) (eC (.str "-")) gRemPre) aNil)) truD)) (tNotD (t1 (eCallR (m_is_digits K cs) (aCons (eVar 3) aNil)) truD))) (sRaise cs.c_BadExact fn_BadExact g_BadExact (aCons (eVar 0) aNil)) sNext)
    (sSeq (sSet 4 (eB gIntA (aCons (eVar 3) aNil)) [])
    (sSeq (sIf (t2 (eVar 4) (eC (.int 0)) eqD) (sRaise cs.c_BadExact fn_BadExact g_BadExact (aCons (eVar 0) aNil)) sNext)
    (sSeq (sSet 5 (eCallR (m_exact K cs) (aCons (eB gIntA (aCons (eVar 1) aNil)) (aCons (eVar 4) aNil))) [4])
    (sSeq (sIf (t2 (eCallR (m_exact_text K cs) (aCons (eVar 5) aNil)) (eVar 0) neD) (sRaise cs.c_BadExact fn_BadExact g_BadExact (aCons (eVar 0) aNil)) sNext)
    (sRet (eVar 5)))))))))
theorem sc_read_exact : FnScope ["text", "top", "bar", "bottom", "d", "number"] ["text"] (defScope s_read_exact) := ⟨rfl, rfl, rfl, by decide +kernel, rfl, by decide +kernel, by decide +kernel⟩
noncomputable def m_read_exact (K : PySem.W.Frag) (cs : Cs) : List Dt → Out Dt := argN 1 (runD 6 (b_read_exact K cs))
theorem ok_read_exact (T : Tx P w K mg base cs) {a : Addr} {fd : FuncData} (F : FunD K "read_exact" "read_exact" (defArgs s_read_exact) (defBody s_read_exact) (defScope s_read_exact) [] [] a fd) : FnOk P w K mg base (L2.CX P w) 4 a fd ["text"] (spD K 1 (runD 6 (b_read_exact K cs))) :=
  def_okD F sc_read_exact (fun cdv A outer s H E hr =>
    (s_cons (s_asg (pd_partition (pd_var 0) pd_str) (g_tup (by rfl) (gs_cons (g_name 1 sc_read_exact.nd) (gs_cons (g_name 2 sc_read_exact.nd) (gs_cons (g_name 3 sc_read_exact.nd) gs_nil))) (ulen_cons (ulen_cons (ulen_cons ulen_nil)))))
    (s_cons (s_if (pt_notD (pt_v (pd_var 2))) (s_one (s_set 3 sc_read_exact.nd pd_str)) s_nil)
    (s_cons (s_if (ptw (pw_orD (pt_notD (pt_v (pd_callR (cl_is_digits T) (takes_of (by rfl) (by rfl) (by rfl) (by rfl)) hr (by decide) (by rfl) (pa_consD (pd_removeprefix (pd_var 1) pd_str) pa_nilD)))) (pw_or1D (pt_notD (pt_v (pd_callR (cl_is_digits T) (takes_of (by rfl) (by rfl) (by rfl) (by rfl)) hr (by decide) (by rfl) (pa_consD (pd_var 3) pa_nilD))))))) (s_one (s_raise (by rfl) (mkc_BadExact T) (okv_BadExact K) (takes_of (by rfl) (by rfl) (by rfl) (by rfl)) hr (by decide) (pa_consD (pd_var 0) pa_nilD) (by rfl))) s_nil)
    (s_cons (s_set 4 sc_read_exact.nd (pd_intA (by rfl) T.n_int (pa_consD (pd_var 3) pa_nilD)))
    (s_cons (s_if (pt_c (cm_eq (u64 hr)) (pd_var 4) pd_int) (s_one (s_raise (by rfl) (mkc_BadExact T) (okv_BadExact K) (takes_of (by rfl) (by rfl) (by rfl) (by rfl)) hr (by decide) (pa_consD (pd_var 0) pa_nilD) (by rfl))) s_nil)
    (s_cons (s_set 5 sc_read_exact.nd (pd_callR (cl_exact T) (takes_of (by rfl) (by rfl) (by rfl) (by rfl)) hr (by decide) (by rfl) (pa_consD (pd_intA (by rfl) T.n_int (pa_consD (pd_var 1) pa_nilD)) (pa_consD (pd_var 4) pa_nilD))))
    (s_cons (s_if (pt_c (cm_ne (u64 hr)) (pd_callR (cl_exact_text T) (takes_of (by rfl) (by rfl) (by rfl) (by rfl)) hr (by decide) (by rfl) (pa_consD (pd_var 5) pa_nilD)) (pd_var 0)) (s_one (s_raise (by rfl) (mkc_BadExact T) (okv_BadExact K) (takes_of (by rfl) (by rfl) (by rfl) (by rfl)) hr (by decide) (pa_consD (pd_var 0) pa_nilD) (by rfl))) s_nil)
    (s_one (s_ret (pd_var 5)))))))))))
theorem cl_read_exact (T : Tx P w K mg base cs) : ClR P w K mg base "read_exact" 4 (m_read_exact K cs) := by
  obtain ⟨a, fd, F, hm⟩ := T.F_read_exact
  exact cl_of (ok_read_exact T F) hm F.kp (binds_all F (fun kV doc pm an cdv ct us hl => match us, hl with | [_], _ => rfl))
noncomputable def b__law_is_integer (K : PySem.W.Frag) (cs : Cs) : FD.Env → SOut :=
  (sRet (eAnd (eB gIsi (aCons (eVar 0) (aCons (eC (.ty "int")) aNil))) (eNot (eB gIsi (aCons (eVar 0) (aCons (eC (.ty "bool")) aNil))))))
theorem sc__law_is_integer : FnScope ["_law_value"] ["_law_value"] (defScope s__law_is_integer) := ⟨rfl, rfl, rfl, by decide +kernel, rfl, by decide +kernel, by decide +kernel⟩
noncomputable def m__law_is_integer (K : PySem.W.Frag) (cs : Cs) : List Dt → Out Dt := argN 1 (runD 1 (b__law_is_integer K cs))
theorem ok__law_is_integer (T : Tx P w K mg base cs) {a : Addr} {fd : FuncData} (F : FunD K "_law_is_integer" "_law_is_integer" (defArgs s__law_is_integer) (defBody s__law_is_integer) (defScope s__law_is_integer) [] [] a fd) : FnOk P w K mg base (L2.CX P w) 1 a fd ["_law_value"] (spD K 1 (runD 1 (b__law_is_integer K cs))) :=
  def_okD F sc__law_is_integer (fun cdv A outer s H E hr =>
    (s_one (s_ret (pd_and (pd_isi (by rfl) T.n_isinstance (pa_consD (pd_var 0) (pa_consD (pd_type (by rfl) T.n_int bt_int) pa_nilD))) (pd_one (pd_not (pd_isi (by rfl) T.n_isinstance (pa_consD (pd_var 0) (pa_consD (pd_type (by rfl) T.n_bool bt_bool) pa_nilD)))))))))
theorem cl__law_is_integer (T : Tx P w K mg base cs) : ClR P w K mg base "_law_is_integer" 1 (m__law_is_integer K cs) := by
  obtain ⟨a, fd, F, hm⟩ := T.F__law_is_integer
  exact cl_of (ok__law_is_integer T F) hm F.kp (binds_all F (fun kV doc pm an cdv ct us hl => match us, hl with | [_], _ => rfl))
noncomputable def b__law_digits (K : PySem.W.Frag) (cs : Cs) : FD.Env → SOut :=
  (sSeq (sIf (tOrD (t2 (eVar 0) (eC (.str "")) eqD) (t2 (eB gLen (aCons (eVar 0) aNil)) (eC (.int 40)) (cI fun i j => decide (j < i)))) (sRet (e1 (eC (.int 1)) gNeg)) sNext)
    (sSeq (sIf (tAndD (t2 (e2 (eVar 0) (eC (.int 0)) gIx) (eC (.str "0")) eqD) (t2 (eB gLen (aCons (eVar 0) aNil)) (eC (.int 1)) (cI fun i j => decide (j < i)))) (sRet (e1 (eC (.int 1)) gNeg)) sNext)
    (sSeq (sFor (uName 1) (oSeq (eVar 0)) [0]
    (sIf (t2 (eVar 1) (eC (.str "0123456789")) (neg2 inS)) (sRet (e1 (eC (.int 1)) gNeg)) sNext))
    (sRet (eB gIntA (aCons (eVar 0) aNil))))))
theorem sc__law_digits : FnScope ["_law_word", "_law_sign"] ["_law_word"] (defScope s__law_digits) := ⟨rfl, rfl, rfl, by decide +kernel, rfl, by decide +kernel, by decide +kernel⟩
noncomputable def m__law_digits (K : PySem.W.Frag) (cs : Cs) : List Dt → Out Dt := argN 1 (runD 2 (b__law_digits K cs))
theorem ok__law_digits (T : Tx P w K mg base cs) {a : Addr} {fd : FuncData} (F : FunD K "_law_digits" "_law_digits" (defArgs s__law_digits) (defBody s__law_digits) (defScope s__law_digits) [] [] a fd) : FnOk P w K mg base (L2.CX P w) 1 a fd ["_law_word"] (spD K 1 (runD 2 (b__law_digits K cs))) :=
  def_okD F sc__law_digits (fun cdv A outer s H E hr =>
    (s_cons (s_if (ptw (pw_orD (pt_c (cm_eq (u64 hr)) (pd_var 0) pd_str) (pw_or1D (pt_c cm_gt (pd_len (by rfl) T.n_len (pa_consD (pd_var 0) pa_nilD)) pd_int)))) (s_one (s_ret (pd_neg pd_int))) s_nil)
    (s_cons (s_if (ptw (pw_andD (pt_c (cm_eq (u64 hr)) (pd_ixv 0 pd_int) pd_str) (pw_and1D (pt_c cm_gt (pd_len (by rfl) T.n_len (pa_consD (pd_var 0) pa_nilD)) pd_int)))) (s_one (s_ret (pd_neg pd_int))) s_nil)
    (s_cons (s_for (passes_of (by rfl)) (by rfl) (pi_seqD (pd_var 0)) (g_name 1 sc__law_digits.nd)
    (s_one (s_if (pt_c cm_notInS (pd_var 1) pd_str (hm := by with_unfolding_all rfl)) (s_one (s_ret (pd_neg pd_int))) s_nil)))
    (s_one (s_ret (pd_intA (by rfl) T.n_int (pa_consD (pd_var 0) pa_nilD))))))))
theorem cl__law_digits (T : Tx P w K mg base cs) : ClR P w K mg base "_law_digits" 1 (m__law_digits K cs) := by
  obtain ⟨a, fd, F, hm⟩ := T.F__law_digits
  exact cl_of (ok__law_digits T F) hm F.kp (binds_all F (fun kV doc pm an cdv ct us hl => match us, hl with | [_], _ => rfl))
noncomputable def b__law_read (K : PySem.W.Frag) (cs : Cs) : FD.Env → SOut :=
  (sSeq (sSet 1 (eT (t2 (eCut (eVar 0) oNone (oInt (eC (.int 1)))) (eC (.str "-")) eqD)) [])
    (sSeq (sSet 2 (eVar 0) [0])
    (sSeq (sIf (t1 (eVar 1) truD) (sSet 2 (eCut (eVar 0) (oInt (eC (.int 1))) oNone) [0]) sNext)
    (sSeq (sSetL 3 (lM1 (eVar 2) (eC (.str "/")) gSplit) [])
    (sSeq (sSet 4 (eCallR (m__law_digits K cs) (aCons (e2 (eVar 3) (eC (.int 0)) gIx) aNil)) [])
    (sSeq (sIf (tOrD (t2 (eB gLen (aCons (eVar 3) aNil)) (eC (.int 2)) (cI fun i j => decide (j < i))) (tOrD (t2 (eVar 4) (eC (.int 0)) (cI fun i j => decide (i < j))) (tAndD (t1 (eVar 1) truD) (t2 (eVar 4) (eC (.int 0)) eqD)))) (sRet (eL (lLst aNil))) sNext)
    (sSeq (sSet 5 (eC (.int 1)) [])
    (sSeq (sIf (t2 (eB gLen (aCons (eVar 3) aNil)) (eC (.int 2)) eqD) (sSeq (sSet 5 (eCallR (m__law_digits K cs) (aCons (e2 (eVar 3) (eC (.int 1)) gIx) aNil)) [])
    (sIf (tOrD (t2 (eVar 5) (eC (.int 2)) (cI fun i j => decide (i < j))) (t2 (eCallR (m__law_shared K cs) (aCons (eVar 4) (aCons (eVar 5) aNil))) (eC (.int 1)) neD)) (sRet (eL (lLst aNil))) sNext)) sNext)
    (sSeq (sIf (t1 (eVar 1) truD) (sSet 4 (e1 (eVar 4) gNeg) [4]) sNext)
    (sRet (eL (lLst (aCons (eVar 4) (aCons (eVar 5) aNil))))))))))))))
theorem sc__law_read : FnScope ["_law_text_here", "_law_negative", "_law_rest", "_law_parts", "_law_n", "_law_d"] ["_law_text_here"] (defScope s__law_read) := ⟨rfl, rfl, rfl, by decide +kernel, rfl, by decide +kernel, by decide +kernel⟩
noncomputable def m__law_read (K : PySem.W.Frag) (cs : Cs) : List Dt → Out Dt := argN 1 (runD 6 (b__law_read K cs))
theorem ok__law_read (T : Tx P w K mg base cs) {a : Addr} {fd : FuncData} (F : FunD K "_law_read" "_law_read" (defArgs s__law_read) (defBody s__law_read) (defScope s__law_read) [] [] a fd) : FnOk P w K mg base (L2.CX P w) 2 a fd ["_law_text_here"] (spD K 1 (runD 6 (b__law_read K cs))) :=
  def_okD F sc__law_read (fun cdv A outer s H E hr =>
    (s_cons (s_set 1 sc__law_read.nd (pd_c (cm_eq (u64 hr)) (pd_cut (pd_var 0) po_noneD (po_someD pd_int)) pd_str))
    (s_cons (s_set 2 sc__law_read.nd (pd_var 0))
    (s_cons (s_if (pt_v (pd_var 1)) (s_one (s_set 2 sc__law_read.nd (pd_cut (pd_var 0) (po_someD pd_int) po_noneD))) s_nil)
    (s_cons (s_setL 3 sc__law_read.nd (pl_split (pd_var 2) pd_str))
    (s_cons (s_set 4 sc__law_read.nd (pd_callR (cl__law_digits T) (takes_of (by rfl) (by rfl) (by rfl) (by rfl)) hr (by decide) (by rfl) (pa_consD (pd_ixv 3 pd_int) pa_nilD)))
    (s_cons (s_if (ptw (pw_orD (pt_c cm_gt (pd_len (by rfl) T.n_len (pa_consD (pd_var 3) pa_nilD)) pd_int) (pw_orD (pt_c cm_lt (pd_var 4) pd_int) (pw_or1D (ptw (pw_andD (pt_v (pd_var 1)) (pw_and1D (pt_c (cm_eq (u64 hr)) (pd_var 4) pd_int)))))))) (s_one (s_ret (pd_l (pl_lst pa_nilD)))) s_nil)
    (s_cons (s_set 5 sc__law_read.nd pd_int)
    (s_cons (s_if (pt_c (cm_eq (u64 hr)) (pd_len (by rfl) T.n_len (pa_consD (pd_var 3) pa_nilD)) pd_int) (s_cons (s_set 5 sc__law_read.nd (pd_callR (cl__law_digits T) (takes_of (by rfl) (by rfl) (by rfl) (by rfl)) hr (by decide) (by rfl) (pa_consD (pd_ixv 3 pd_int) pa_nilD)))
    (s_one (s_if (ptw (pw_orD (pt_c cm_lt (pd_var 5) pd_int) (pw_or1D (pt_c (cm_ne (u64 hr)) (pd_callR (cl__law_shared T) (takes_of (by rfl) (by rfl) (by rfl) (by rfl)) hr (by decide) (by rfl) (pa_consD (pd_var 4) (pa_consD (pd_var 5) pa_nilD))) pd_int)))) (s_one (s_ret (pd_l (pl_lst pa_nilD)))) s_nil))) s_nil)
    (s_cons (s_if (pt_v (pd_var 1)) (s_one (s_set 4 sc__law_read.nd (pd_neg (pd_var 4)))) s_nil)
    (s_one (s_ret (pd_l (pl_lst (pa_consD (pd_var 4) (pa_consD (pd_var 5) pa_nilD))))))))))))))))
theorem cl__law_read (T : Tx P w K mg base cs) : ClR P w K mg base "_law_read" 2 (m__law_read K cs) := by
  obtain ⟨a, fd, F, hm⟩ := T.F__law_read
  exact cl_of (ok__law_read T F) hm F.kp (binds_all F (fun kV doc pm an cdv ct us hl => match us, hl with | [_], _ => rfl))
noncomputable def b__law_asked (K : PySem.W.Frag) (cs : Cs) : FD.Env → SOut :=
  (sSeq (sSet 1 (eCallR (m__law_read K cs) (aCons (eVar 0) aNil)) [0])
    (sSeq (sTryAs K cs.all (.ref cs.c_BadExact) 3 (sSet 2 (eCallR (m_read_exact K cs) (aCons (eVar 0) aNil)) [0])
    (fun a d C => (sSeq (sSet 4 (eOr (eB (gIsX K C a d) (aCons (eVar 3) (aCons (eC (.cls cs.c_ZeroDenominator)) aNil))) (eOr (eB (gIsX K C a d) (aCons (eVar 3) (aCons (eC (.cls cs.c_Unfit)) aNil))) (eB (gIsX K C a d) (aCons (eVar 3) (aCons (eC (.cls cs.c_NoAnswer)) aNil))))) [])
    (sSeq (sSet 5 (eAnd (eB (gIsX K C a d) (aCons (eVar 3) (aCons (eC (.cls cs.c_Refused)) aNil))) (eAnd (eB (gIsX K C a d) (aCons (eVar 3) (aCons (eC (.cls cs.c_HouseError)) aNil))) (eB (gIsX K C a d) (aCons (eVar 3) (aCons (eC (.ty "ValueError")) aNil))))) [])
    (sRet (eAnd (eT (t2 (eVar 1) (eL (lLst aNil)) eqD)) (eAnd (eVar 5) (eAnd (eNot (eVar 4)) (eAnd (eB gIsi (aCons (e1 (eVar 3) (gXf C a d "text")) (aCons (eC (.ty "str")) aNil))) (eT (t2 (e1 (eVar 3) (gXf C a d "text")) (eVar 0) eqD)))))))))))
    (sSeq (sIf (tOrD (t2 (eVar 1) (eL (lLst aNil)) eqD) (tOrD (tNotD (t1 (eB gIsi (aCons (eVar 2) (aCons (eC (.ty "tuple")) aNil))) truD)) (t2 (eB gLen (aCons (eVar 2) aNil)) (eC (.int 2)) neD))) (sRet (eC (.bl false))) sNext)
    (sSeq (sIf (tOrD (tNotD (t1 (eCallR (m__law_is_integer K cs) (aCons (e2 (eVar 2) (eC (.int 0)) gIx) aNil)) truD)) (tNotD (t1 (eCallR (m__law_is_integer K cs) (aCons (e2 (eVar 2) (eC (.int 1)) gIx) aNil)) truD))) (sRet (eC (.bl false))) sNext)
    (sSeq (sIf (tOrD (t2 (e2 (eVar 2) (eC (.int 0)) gIx) (e2 (eVar 1) (eC (.int 0)) gIx) neD) (t2 (e2 (eVar 2) (eC (.int 1)) gIx) (e2 (eVar 1) (eC (.int 1)) gIx) neD)) (sRet (eC (.bl false))) sNext)
    (sSeq (sSet 6 (eCallR (m_exact_text K cs) (aCons (eVar 2) aNil)) [2])
    (sRet (eAnd (eB gIsi (aCons (eVar 6) (aCons (eC (.ty "str")) aNil))) (eT (t2 (eVar 6) (eVar 0) eqD))))))))))
theorem sc__law_asked : FnScope ["_law_text_here", "_law_due", "_law_value", "e", "_law_other", "_law_kinds", "_law_written"] ["_law_text_here"] (defScope s__law_asked) := ⟨rfl, rfl, rfl, by decide +kernel, rfl, by decide +kernel, by decide +kernel⟩
noncomputable def m__law_asked (K : PySem.W.Frag) (cs : Cs) : List Dt → Out Dt := argN 1 (runD 7 (b__law_asked K cs))
theorem ok__law_asked (T : Tx P w K mg base cs) {a : Addr} {fd : FuncData} (F : FunD K "_law_asked" "_law_asked" (defArgs s__law_asked) (defBody s__law_asked) (defScope s__law_asked) [] [] a fd) : FnOk P w K mg base (L2.CX P w) 5 a fd ["_law_text_here"] (spD K 1 (runD 7 (b__law_asked K cs))) :=
  def_okD F sc__law_asked (fun cdv A outer s H E hr =>
    (s_cons (s_set 1 sc__law_asked.nd (pd_callR (cl__law_read T) (takes_of (by rfl) (by rfl) (by rfl) (by rfl)) hr (by decide) (by rfl) (pa_consD (pd_var 0) pa_nilD)))
    (s_cons (s_tryAs 3 cs.all (by rfl) (by rfl) sc__law_asked.nd ⟨by rfl, by decide, .inl T.g_BadExact⟩ (takes_of (by rfl) (by rfl) (by rfl) (by rfl)) (fun W3 pn3 xe3 tk3 hp3 => (s_one (s_set 2 sc__law_asked.nd (pd_callR (cl_read_exact T) tk3 hr (by decide) (by rfl) (pa_consD (pd_var 0) pa_nilD)))))
    (fun a oe C d pn hD hz hf => (s_cons (s_set 4 sc__law_asked.nd (pd_or (pd_isX hz hf (T.xc C hD) (by rfl) T.n_isinstance (pa_consD (pd_var 3) (pa_consD (pd_glob (v := .ref cs.c_ZeroDenominator) (d := .cls cs.c_ZeroDenominator) (by rfl) ⟨_, T.g_ZeroDenominator, rfl⟩ (fun _ _ => rfl)) pa_nilD))) (pd_or (pd_isX hz hf (T.xc C hD) (by rfl) T.n_isinstance (pa_consD (pd_var 3) (pa_consD (pd_glob (v := .ref cs.c_Unfit) (d := .cls cs.c_Unfit) (by rfl) ⟨_, T.g_Unfit, rfl⟩ (fun _ _ => rfl)) pa_nilD))) (pd_one (pd_isX hz hf (T.xc C hD) (by rfl) T.n_isinstance (pa_consD (pd_var 3) (pa_consD (pd_glob (v := .ref cs.c_NoAnswer) (d := .cls cs.c_NoAnswer) (by rfl) ⟨_, T.g_NoAnswer, rfl⟩ (fun _ _ => rfl)) pa_nilD)))))))
    (s_cons (s_set 5 sc__law_asked.nd (pd_and (pd_isX hz hf (T.xc C hD) (by rfl) T.n_isinstance (pa_consD (pd_var 3) (pa_consD (pd_glob (v := .ref cs.c_Refused) (d := .cls cs.c_Refused) (by rfl) ⟨_, T.g_Refused, rfl⟩ (fun _ _ => rfl)) pa_nilD))) (pd_and (pd_isX hz hf (T.xc C hD) (by rfl) T.n_isinstance (pa_consD (pd_var 3) (pa_consD (pd_glob (v := .ref cs.c_HouseError) (d := .cls cs.c_HouseError) (by rfl) ⟨_, T.g_HouseError, rfl⟩ (fun _ _ => rfl)) pa_nilD))) (pd_one (pd_isX hz hf (T.xc C hD) (by rfl) T.n_isinstance (pa_consD (pd_var 3) (pa_consD (pd_type (by rfl) T.n_ValueError bt_ValueError) pa_nilD)))))))
    (s_one (s_ret (pd_and (pd_c (cm_eq (us64 hr)) (pd_var 1) (pd_l (pl_lst pa_nilD))) (pd_and (pd_var 5) (pd_and (pd_not (pd_var 4)) (pd_and (pd_isi (by rfl) T.n_isinstance (pa_consD (pd_xf hz hf (T.xf C hD) (T.xn_text C hD) (pd_var 3)) (pa_consD (pd_type (by rfl) T.n_str bt_str) pa_nilD))) (pd_one (pd_c (cm_eq (us64 hr)) (pd_xf hz hf (T.xf C hD) (T.xn_text C hD) (pd_var 3)) (pd_var 0)))))))))))))
    (s_cons (s_if (ptw (pw_orD (pt_c (cm_eq (u64 hr)) (pd_var 1) (pd_l (pl_lst pa_nilD))) (pw_orD (pt_notD (pt_v (pd_isi (by rfl) T.n_isinstance (pa_consD (pd_var 2) (pa_consD (pd_type (by rfl) T.n_tuple bt_tuple) pa_nilD))))) (pw_or1D (pt_c (cm_ne (u64 hr)) (pd_len (by rfl) T.n_len (pa_consD (pd_var 2) pa_nilD)) pd_int))))) (s_one (s_ret pd_bl)) s_nil)
    (s_cons (s_if (ptw (pw_orD (pt_notD (pt_v (pd_callR (cl__law_is_integer T) (takes_of (by rfl) (by rfl) (by rfl) (by rfl)) hr (by decide) (by rfl) (pa_consD (pd_ixv 2 pd_int) pa_nilD)))) (pw_or1D (pt_notD (pt_v (pd_callR (cl__law_is_integer T) (takes_of (by rfl) (by rfl) (by rfl) (by rfl)) hr (by decide) (by rfl) (pa_consD (pd_ixv 2 pd_int) pa_nilD))))))) (s_one (s_ret pd_bl)) s_nil)
    (s_cons (s_if (ptw (pw_orD (pt_c (cm_ne (u64 hr)) (pd_ixv 2 pd_int) (pd_ixv 1 pd_int)) (pw_or1D (pt_c (cm_ne (u64 hr)) (pd_ixv 2 pd_int) (pd_ixv 1 pd_int))))) (s_one (s_ret pd_bl)) s_nil)
    (s_cons (s_set 6 sc__law_asked.nd (pd_callR (cl_exact_text T) (takes_of (by rfl) (by rfl) (by rfl) (by rfl)) hr (by decide) (by rfl) (pa_consD (pd_var 2) pa_nilD)))
    (s_one (s_ret (pd_and (pd_isi (by rfl) T.n_isinstance (pa_consD (pd_var 6) (pa_consD (pd_type (by rfl) T.n_str bt_str) pa_nilD))) (pd_one (pd_c (cm_eq (u64 hr)) (pd_var 6) (pd_var 0)))))))))))))
theorem cl__law_asked (T : Tx P w K mg base cs) : ClR P w K mg base "_law_asked" 5 (m__law_asked K cs) := by
  obtain ⟨a, fd, F, hm⟩ := T.F__law_asked
  exact cl_of (ok__law_asked T F) hm F.kp (binds_all F (fun kV doc pm an cdv ct us hl => match us, hl with | [_], _ => rfl))
noncomputable def b__law_long (K : PySem.W.Frag) (cs : Cs) : FD.Env → SOut :=
  (sSeq (sSet 1 (e2 (eB gIntA (aCons (eVar 0) aNil)) (eC (.int 1000000007)) (gI nzB Int.fmod)) [])
    (sSeq (sSet 2 (e2 (e2 (eB gStr (aCons (e2 (e2 (eC (.int 10)) (eC (.int 60)) (gI powB fun i j => i ^ j.toNat)) (eVar 1) gAdd) aNil)) (e2 (eC (.str "0")) (e2 (eC (.int 60)) (eB gLen (aCons (eB gStr (aCons (eVar 1) aNil)) aNil)) (gI0 (· - ·))) gMulS) gAdd) (eB gStr (aCons (eVar 1) aNil)) gAdd) [])
    (sSeq (sSet 3 (e2 (e2 (e2 (e2 (eC (.int 10)) (eC (.int 60)) (gI powB fun i j => i ^ j.toNat)) (eVar 1) gAdd) (e2 (eC (.int 10)) (eC (.int 60)) (gI powB fun i j => i ^ j.toNat)) (gI mulB (· * ·))) (eVar 1) gAdd) [1])
    (sSeq (sIf (tOrD (t2 (eCallR (m_exact_text K cs) (aCons (eTup (aCons (eVar 3) (aCons (eC (.int 1)) aNil))) aNil)) (eVar 2) neD) (t2 (eCallR (m_exact_text K cs) (aCons (eTup (aCons (e2 (eC (.int 0)) (eVar 3) (gI0 (· - ·))) (aCons (eC (.int 1)) aNil))) aNil)) (e2 (eC (.str "-")) (eVar 2) gAdd) neD)) (sRet (eC (.bl false))) sNext)
    (sRet (eAnd (eT (t2 (eCallR (m_exact_text K cs) (aCons (eTup (aCons (eC (.int 1)) (aCons (eVar 3) aNil))) aNil)) (e2 (eC (.str "1/")) (eVar 2) gAdd) eqD)) (eT (t2 (eCallR (m_exact_text K cs) (aCons (eTup (aCons (e2 (eC (.int 0)) (eC (.int 1)) (gI0 (· - ·))) (aCons (eVar 3) aNil))) aNil)) (e2 (eC (.str "-1/")) (eVar 2) gAdd) eqD))))))))
theorem sc__law_long : FnScope ["_law_cell_here", "_law_low", "_law_text_here", "_law_number_here"] ["_law_cell_here"] (defScope s__law_long) := ⟨rfl, rfl, rfl, by decide +kernel, rfl, by decide +kernel, by decide +kernel⟩
noncomputable def m__law_long (K : PySem.W.Frag) (cs : Cs) : List Dt → Out Dt := argN 1 (runD 4 (b__law_long K cs))
theorem ok__law_long (T : Tx P w K mg base cs) {a : Addr} {fd : FuncData} (F : FunD K "_law_long" "_law_long" (defArgs s__law_long) (defBody s__law_long) (defScope s__law_long) [] [] a fd) : FnOk P w K mg base (L2.CX P w) 3 a fd ["_law_cell_here"] (spD K 1 (runD 4 (b__law_long K cs))) :=
  def_okD F sc__law_long (fun cdv A outer s H E hr =>
    (s_cons (s_set 1 sc__law_long.nd (pd_mod (pd_intA (by rfl) T.n_int (pa_consD (pd_var 0) pa_nilD)) pd_int))
    (s_cons (s_set 2 sc__law_long.nd (pd_add (pd_add (pd_strc (by rfl) T.n_str (pa_consD (pd_add (pd_pow pd_int pd_int) (pd_var 1)) pa_nilD)) (pd_mulS pd_str (pd_sub pd_int (pd_len (by rfl) T.n_len (pa_consD (pd_strc (by rfl) T.n_str (pa_consD (pd_var 1) pa_nilD)) pa_nilD))))) (pd_strc (by rfl) T.n_str (pa_consD (pd_var 1) pa_nilD))))
    (s_cons (s_set 3 sc__law_long.nd (pd_add (pd_mul (pd_add (pd_pow pd_int pd_int) (pd_var 1)) (pd_pow pd_int pd_int)) (pd_var 1)))
    (s_cons (s_if (ptw (pw_orD (pt_c (cm_ne (u64 hr)) (pd_callR (cl_exact_text T) (takes_of (by rfl) (by rfl) (by rfl) (by rfl)) hr (by decide) (by rfl) (pa_consD (pd_tup (pa_consD (pd_var 3) (pa_consD pd_int pa_nilD))) pa_nilD)) (pd_var 2)) (pw_or1D (pt_c (cm_ne (u64 hr)) (pd_callR (cl_exact_text T) (takes_of (by rfl) (by rfl) (by rfl) (by rfl)) hr (by decide) (by rfl) (pa_consD (pd_tup (pa_consD (pd_sub pd_int (pd_var 3)) (pa_consD pd_int pa_nilD))) pa_nilD)) (pd_add pd_str (pd_var 2)))))) (s_one (s_ret pd_bl)) s_nil)
    (s_one (s_ret (pd_and (pd_c (cm_eq (u64 hr)) (pd_callR (cl_exact_text T) (takes_of (by rfl) (by rfl) (by rfl) (by rfl)) hr (by decide) (by rfl) (pa_consD (pd_tup (pa_consD pd_int (pa_consD (pd_var 3) pa_nilD))) pa_nilD)) (pd_add pd_str (pd_var 2))) (pd_one (pd_c (cm_eq (u64 hr)) (pd_callR (cl_exact_text T) (takes_of (by rfl) (by rfl) (by rfl) (by rfl)) hr (by decide) (by rfl) (pa_consD (pd_tup (pa_consD (pd_sub pd_int pd_int) (pa_consD (pd_var 3) pa_nilD))) pa_nilD)) (pd_add pd_str (pd_var 2))))))))))))
theorem cl__law_long (T : Tx P w K mg base cs) : ClR P w K mg base "_law_long" 3 (m__law_long K cs) := by
  obtain ⟨a, fd, F, hm⟩ := T.F__law_long
  exact cl_of (ok__law_long T F) hm F.kp (binds_all F (fun kV doc pm an cdv ct us hl => match us, hl with | [_], _ => rfl))
noncomputable def b_law (K : PySem.W.Frag) (cs : Cs) : FD.Env → SOut :=
  (sSeq (sSet 1 (eCallR (m__law_number K cs) (aCons (eVar 0) aNil)) [0])
    (sSeq (sSet 2 (eCallR (m__law_text K cs) (aCons (eVar 1) aNil)) [1])
    (sSeq (sSet 3 (eCallR (m_exact_text K cs) (aCons (eVar 1) aNil)) [1])
    (sSeq (sIf (tOrD (tNotD (t1 (eB gIsi (aCons (eVar 3) (aCons (eC (.ty "str")) aNil))) truD)) (tOrD (t2 (eVar 3) (eVar 2) neD) (tNotD (t1 (eCallR (m__law_asked K cs) (aCons (eVar 2) aNil)) truD)))) (sRet (eC (.bl false))) sNext)
    (sSeq (sFor (uName 4) (oRange (aCons (eC (.int 2)) aNil)) []
    (sSeq (sSet 5 (e2 (eB gIntA (aCons (eCallR (m__law_cell K cs) (aCons (eVar 0) (aCons (e2 (eC (.int 6)) (e2 (eC (.int 2)) (eVar 4) (gI mulB (· * ·))) gAdd) aNil))) aNil)) (eC (.int 11)) (gI nzB Int.fmod)) [])
    (sSeq (sSet 6 (e2 (eB gIntA (aCons (eCallR (m__law_cell K cs) (aCons (eVar 0) (aCons (e2 (eC (.int 7)) (e2 (eC (.int 2)) (eVar 4) (gI mulB (· * ·))) gAdd) aNil))) aNil)) (eC (.int 1000000)) (gI nzB Int.fmod)) [])
    (sIf (tNotD (t1 (eCallR (m__law_asked K cs) (aCons (eCallR (m__law_changed K cs) (aCons (eVar 2) (aCons (eVar 5) (aCons (eVar 6) (aCons (eVar 1) aNil))))) aNil)) truD)) (sRet (eC (.bl false))) sNext))))
    (sSeq (sIf (tNotD (t1 (eCallR (m__law_long K cs) (aCons (eCallR (m__law_cell K cs) (aCons (eVar 0) (aCons (eC (.int 9)) aNil))) aNil)) truD)) (sRet (eC (.bl false))) sNext)
    (sRet (eAnd (eCallR (m__law_asked K cs) (aCons (eCallR (m__law_odd K cs) (aCons (eCallR (m__law_cell K cs) (aCons (eVar 0) (aCons (eC (.int 10)) aNil))) aNil)) aNil)) (eCallR (m__law_asked K cs) (aCons (eVar 2) aNil))))))))))
theorem sc_law : FnScope ["_law_script", "_law_number_here", "_law_text_here", "_law_written", "_law_k", "_law_way", "_law_place"] ["_law_script"] (defScope s_law) := ⟨rfl, rfl, rfl, by decide +kernel, rfl, by decide +kernel, by decide +kernel⟩
noncomputable def m_law (K : PySem.W.Frag) (cs : Cs) : List Dt → Out Dt := argN 1 (runD 7 (b_law K cs))
theorem ok_law (T : Tx P w K mg base cs) {a : Addr} {fd : FuncData} (F : FunD K "law" "law" (defArgs s_law) (defBody s_law) (defScope s_law) [] [] a fd) : FnOk P w K mg base (L2.CX P w) 6 a fd ["_law_script"] (spD K 1 (runD 7 (b_law K cs))) :=
  def_okD F sc_law (fun cdv A outer s H E hr =>
    (s_cons (s_set 1 sc_law.nd (pd_callR (cl__law_number T) (takes_of (by rfl) (by rfl) (by rfl) (by rfl)) hr (by decide) (by rfl) (pa_consD (pd_var 0) pa_nilD)))
    (s_cons (s_set 2 sc_law.nd (pd_callR (cl__law_text T) (takes_of (by rfl) (by rfl) (by rfl) (by rfl)) hr (by decide) (by rfl) (pa_consD (pd_var 1) pa_nilD)))
    (s_cons (s_set 3 sc_law.nd (pd_callR (cl_exact_text T) (takes_of (by rfl) (by rfl) (by rfl) (by rfl)) hr (by decide) (by rfl) (pa_consD (pd_var 1) pa_nilD)))
    (s_cons (s_if (ptw (pw_orD (pt_notD (pt_v (pd_isi (by rfl) T.n_isinstance (pa_consD (pd_var 3) (pa_consD (pd_type (by rfl) T.n_str bt_str) pa_nilD))))) (pw_orD (pt_c (cm_ne (u64 hr)) (pd_var 3) (pd_var 2)) (pw_or1D (pt_notD (pt_v (pd_callR (cl__law_asked T) (takes_of (by rfl) (by rfl) (by rfl) (by rfl)) hr (by decide) (by rfl) (pa_consD (pd_var 2) pa_nilD)))))))) (s_one (s_ret pd_bl)) s_nil)
    (s_cons (s_for (passes_of (by rfl)) (by rfl) (pi_rng1D (by rfl) T.n_range pd_int) (g_name 4 sc_law.nd)
    (s_cons (s_set 5 sc_law.nd (pd_mod (pd_intA (by rfl) T.n_int (pa_consD (pd_callR (cl__law_cell T) (takes_of (by rfl) (by rfl) (by rfl) (by rfl)) hr (by decide) (by rfl) (pa_consD (pd_var 0) (pa_consD (pd_add pd_int (pd_mul pd_int (pd_var 4))) pa_nilD))) pa_nilD)) pd_int))
    (s_cons (s_set 6 sc_law.nd (pd_mod (pd_intA (by rfl) T.n_int (pa_consD (pd_callR (cl__law_cell T) (takes_of (by rfl) (by rfl) (by rfl) (by rfl)) hr (by decide) (by rfl) (pa_consD (pd_var 0) (pa_consD (pd_add pd_int (pd_mul pd_int (pd_var 4))) pa_nilD))) pa_nilD)) pd_int))
    (s_one (s_if (pt_notD (pt_v (pd_callR (cl__law_asked T) (takes_of (by rfl) (by rfl) (by rfl) (by rfl)) hr (by decide) (by rfl) (pa_consD (pd_callR (cl__law_changed T) (takes_of (by rfl) (by rfl) (by rfl) (by rfl)) hr (by decide) (by rfl) (pa_consD (pd_var 2) (pa_consD (pd_var 5) (pa_consD (pd_var 6) (pa_consD (pd_var 1) pa_nilD))))) pa_nilD)))) (s_one (s_ret pd_bl)) s_nil)))))
    (s_cons (s_if (pt_notD (pt_v (pd_callR (cl__law_long T) (takes_of (by rfl) (by rfl) (by rfl) (by rfl)) hr (by decide) (by rfl) (pa_consD (pd_callR (cl__law_cell T) (takes_of (by rfl) (by rfl) (by rfl) (by rfl)) hr (by decide) (by rfl) (pa_consD (pd_var 0) (pa_consD pd_int pa_nilD))) pa_nilD)))) (s_one (s_ret pd_bl)) s_nil)
    (s_one (s_ret (pd_and (pd_callR (cl__law_asked T) (takes_of (by rfl) (by rfl) (by rfl) (by rfl)) hr (by decide) (by rfl) (pa_consD (pd_callR (cl__law_odd T) (takes_of (by rfl) (by rfl) (by rfl) (by rfl)) hr (by decide) (by rfl) (pa_consD (pd_callR (cl__law_cell T) (takes_of (by rfl) (by rfl) (by rfl) (by rfl)) hr (by decide) (by rfl) (pa_consD (pd_var 0) (pa_consD pd_int pa_nilD))) pa_nilD)) pa_nilD)) (pd_one (pd_callR (cl__law_asked T) (takes_of (by rfl) (by rfl) (by rfl) (by rfl)) hr (by decide) (by rfl) (pa_consD (pd_var 2) pa_nilD)))))))))))))
end
end Lk01

set_option exponentiation.threshold 4000
namespace Lk01
open PySem L2 FD SX TL
variable {K : PySem.W.Frag} {cs : Cs}
/-! ### numbers as texts -/
/-- the signs of i -/
def numI (i : Int) : List Nat := if i < 0 then 45 :: numL i.natAbs else numL i.natAbs
theorem numI_nat (n : Nat) : numI (n : Int) = numL n := by
  unfold numI
  rw [if_neg (by omega), Int.natAbs_natCast]
theorem numI_neg {n : Nat} (h : 0 < n) : numI (-(n : Int)) = 45 :: numL n := by
  unfold numI
  rw [if_pos (by omega), Int.natAbs_neg, Int.natAbs_natCast]
theorem str_num (i : Int) : (Str.ofString (toString i)) = S (numI i) := by
  unfold numI
  split
  · rename_i h
    obtain ⟨m, rfl⟩ := Int.eq_negSucc_of_lt_zero h
    apply ext_tl
    rw [tl_ofString]
    show (("-" ++ Nat.repr (m + 1)).toList.map Char.toNat) = 45 :: numL (m + 1)
    rw [String.toList_append, List.map_append]
    show 45 :: (Nat.repr (m + 1)).toList.map Char.toNat = _
    rw [Nat.toList_repr]
    rfl
  · rename_i h
    obtain ⟨m, rfl⟩ := Int.eq_ofNat_of_zero_le (show 0 ≤ i by omega)
    rw [Int.natAbs_natCast]
    exact num_S m
theorem log_of {i : Int} (h : Bd 1900 i) : i.natAbs.log2 < 1920 := by
  by_cases z : i.natAbs = 0
  · rw [z]; decide
  · exact (Nat.log2_lt z).mpr (Nat.lt_of_lt_of_le h (Nat.pow_le_pow_right (by decide) (by decide)))
theorem g_str {i : Int} (h : Bd 1900 i) : gStr [.int i] = some (.str (S (numI i))) := by
  rw [gStr_int, if_pos (log_of h)]
  exact congrArg (fun s => some (Dt.str s)) (str_num i)
/-- the last k digits, with noughts in front -/
def pad : Nat → Nat → List Nat
  | 0, _ => []
  | k + 1, r => pad k (r / 10) ++ [48 + r % 10]
theorem pad_len : ∀ (k r : Nat), (pad k r).length = k
  | 0, _ => rfl
  | k + 1, r => by
    unfold pad
    rw [List.length_append, pad_len k, List.length_singleton]
theorem num_pad : ∀ (k q r : Nat), 0 < q → r < 10 ^ k → numL (q * 10 ^ k + r) = numL q ++ pad k r
  | 0, q, r, _, h => by
    have : r = 0 := by simpa using h
    subst this
    unfold pad
    simp
  | k + 1, q, r, hq, h => by
    have hp : 0 < 10 ^ k := Nat.pow_pos (by decide)
    have e1 : q * 10 ^ (k + 1) + r = (q * 10 ^ k + r / 10) * 10 + r % 10 := by
      rw [Nat.pow_succ, Nat.add_mul]
      have := Nat.div_add_mod r 10
      have e2 : q * (10 ^ k * 10) = q * 10 ^ k * 10 := by rw [Nat.mul_assoc]
      omega
    have hr : r / 10 < 10 ^ k := by
      rw [Nat.pow_succ] at h
      omega
    have hbig : 10 ≤ q * 10 ^ (k + 1) + r := by
      rw [Nat.pow_succ]
      have : 1 * (10 ^ k * 10) ≤ q * (10 ^ k * 10) := Nat.mul_le_mul_right _ hq
      omega
    rw [numL_step hbig]
    have e3 : (q * 10 ^ (k + 1) + r) / 10 = q * 10 ^ k + r / 10 := by rw [e1]; omega
    have e4 : (q * 10 ^ (k + 1) + r) % 10 = r % 10 := by rw [e1]; omega
    rw [e3, e4, num_pad k q (r / 10) hq hr, List.append_assoc]
    rfl
theorem pad_zero : ∀ k : Nat, pad k 0 = List.replicate k 48
  | 0 => rfl
  | k + 1 => by
    unfold pad
    rw [Nat.zero_div, pad_zero k, List.replicate_succ']
theorem pad_num : ∀ (k r : Nat), 0 < k → r < 10 ^ k → pad k r = List.replicate (k - (numL r).length) 48 ++ numL r
  | k + 1, r, _, h => by
    by_cases hr : r < 10
    · unfold pad
      rw [numL_lt hr, Nat.div_eq_of_lt hr, pad_zero, Nat.mod_eq_of_lt hr]
      rfl
    · have h10 : 10 ≤ r := by omega
      have hk : 0 < k := by
        cases k with
        | zero => simp at h; omega
        | succ k => omega
      have hr' : r / 10 < 10 ^ k := by
        rw [Nat.pow_succ] at h
        omega
      unfold pad
      rw [pad_num k (r / 10) hk hr', numL_step h10, List.length_append, List.length_singleton, List.append_assoc]
      congr 2
      omega
theorem zfill_num {r : Nat} (h : r < 10 ^ 60) : Txt.zfill (S (numL r)) 60 = S (pad 60 r) := by
  have hl := numL_len (k := 60) (by decide) h
  have hs : (S (numL r)).length = (numL r).length := S_len _
  rw [pad_num 60 r (by decide) h]
  unfold Txt.zfill
  by_cases he : (60 : Int) ≤ ((S (numL r)).length : Int)
  · rw [if_pos he, show 60 - (numL r).length = 0 by omega]
    rfl
  · rw [if_neg he]
    have hne := numL_ne r
    have hd := numL_digits r
    unfold zfilled
    cases hc : numL r with
    | nil => exact absurd hc hne
    | cons c l =>
      have hcd := hd c (by rw [hc]; exact List.mem_cons_self)
      have e0 : (S (c :: l)).cps[0]? = some c := by simp [S]
      rw [e0]
      have key : ∀ m : Nat, Builtin.Str.padded (S (c :: l)) m 0 48 = S (List.replicate m 48 ++ (c :: l)) := fun m => by
        apply ext_tl
        unfold Builtin.Str.padded TL.tl
        simp [S]
      split
      · rename_i h1; cases h1; omega
      · rename_i h1; cases h1; omega
      · have e60 : (60 : Int).toNat - (S (c :: l)).length = 60 - (c :: l).length := by rw [S_len]; rfl
        rw [key, e60]
/-- numbers of the size at hand -/
theorem bd60 {r : Nat} (h : r < 10 ^ 60) : Bd 1900 (r : Int) := by
  unfold Bd
  rw [Int.natAbs_natCast]
  exact Nat.lt_trans h (by decide)
/-! ### integer_text -/
@[irreducible] def W60 : Nat := 10 ^ 60
theorem W60_val : W60 = 10 ^ 60 := by unfold W60; rfl
theorem W60_pos : 0 < W60 := by rw [W60_val]; decide
theorem W60_int : (1000000000000000000000000000000000000000000000000000000000000 : Int) = (W60 : Int) := by rw [W60_val]; decide
theorem num_padW {q r : Nat} (hq : 0 < q) (hr : r < W60) : numL (q * W60 + r) = numL q ++ pad 60 r := by
  rw [W60_val] at hr ⊢
  exact num_pad 60 q r hq hr
theorem zfillW {r : Nat} (h : r < W60) : Txt.zfill (S (numL r)) 60 = S (pad 60 r) := zfill_num (by rw [W60_val] at h; exact h)
theorem bdW {r : Nat} (h : r < W60) : Bd 1900 (r : Int) := bd60 (by rw [W60_val] at h; exact h)
theorem divW (i : Int) : divB i (W60 : Int) = true := by
  rw [← W60_int]
  exact divB_of (m := 200) (by decide) (by unfold Bd; decide) (by decide)
theorem pad60 : PadOk 60 = true := by decide
/-- the pieces, the last one first: n in rows of sixty digits -/
def piecesD (l : List (List Nat)) : List Dt := l.map fun x => .str (S x)
theorem int_loop : ∀ (f left : Nat) (ps : List (List Nat)) (n x4 x3 : Option Lo), left < W60 ^ (f + 1) → ps.length + f ≤ 1000 → ∃ (left' : Nat) (ps' : List (List Nat)) (x3' : Option Lo), left' < W60 ∧ ps'.length ≤ ps.length + f ∧ (left' = left ∧ ps' = ps ∨ 0 < left' ∧ ∃ qs, ps' = ps ++ qs ∧ numL left = numL left' ++ qs.reverse.flatten) ∧
    sWhile (t2 (eVar 1) (eC (.int (W60 : Int))) (cI fun i j => decide (j ≤ i)))
      (sSeq (sAsg (uTup (uCons (uName 1) (uCons (uName 3) uNil))) (eB gDivmod (aCons (eVar 1) (aCons (eC (.int (W60 : Int))) aNil))) [1])
        (sAppend 2 (eM1 (eB gStr (aCons (eVar 3) aNil)) (eC (.int 60)) gZfill) []))
      [n, some (.sh (.int left)), some (.ol (piecesD ps)), x3, x4] = .ok .nx [n, some (.sh (.int left')), some (.ol (piecesD ps')), x3', x4] := by
  intro f
  induction f with
  | zero =>
    intro left ps n x4 x3 hl hp
    rw [Nat.zero_add, Nat.pow_one] at hl
    refine ⟨left, ps, x3, hl, by omega, .inl ⟨rfl, rfl⟩, ?_⟩
    rw [sWhile_eq]
    have hd : ¬ (W60 : Int) ≤ (left : Int) := by omega
    simp only [FD.sSeq_ap, FD.sNext_ap, FD.sBrk_ap, FD.sCont_ap, FD.sIf_ap, FD.sSet_ap, FD.sSetL_ap, FD.sDrop_ap, FD.sRet_ap, FD.sRetN_ap, FD.sFor_ap, FD.sAsg_ap, FD.sRaise_ap, FD.sAppend_ap, FD.sSetIx_ap, FD.eC_ap, FD.eVar_0, FD.eVar_s, FD.e1_ap, FD.e2_ap, FD.t1_ap, FD.t2_ap, FD.eT_ap, FD.tAnd_ap, FD.tOr_ap, FD.tNot_ap, FD.eIf_ap, FD.aNil_ap, FD.aCons_ap, FD.eTup_ap, FD.lLst_ap, FD.eL_ap, FD.eB_ap, FD.eCallR_ap, FD.eAnd_ap, FD.eOr_ap, FD.eNot_ap, FD.eChain_ap, FD.oSeq_ap, FD.oRange_ap, FD.oNone_ap, FD.oInt_ap, FD.lCut_ap, FD.gCutL_lst, FD.gCutL_fls, FD.frzD_int, FD.frzD_bl, FD.frzD_str, FD.frzD_non, FD.frzD_nil, FD.frzD_lst, FD.frzD_fls, FD.outS_nx, FD.outS_rt, FD.outS_exc, FD.runD_eq, FD.Out.bind_ok, FD.Out.bind_exc, FD.Out.bind_bad, FD.stE_ok, FD.stE_exc, FD.stE_bad, FD.andThen_nx, FD.andThen_bk, FD.andThen_ct, FD.andThen_rt, FD.andThen_exc, FD.andThen_bad, FD.ofO_some, FD.ofO_none, FD.Lo.d_sh, FD.Lo.d_ol, FD.Lo.d_od, FD.frz_nil, FD.frz_cons, FD.frz1_0, FD.frz1_n, FD.frz1_s, FD.uName_ap, FD.uTup_ap, FD.uCons_ap, FD.uNil_ap, FD.turn_nx, FD.turn_ct, FD.turn_bk, FD.turn_rt, FD.turn_exc, FD.forD_nil, FD.forD_n, FD.atI_0, FD.atI_1, FD.atI_2, FD.atI_3, FD.unset_rt, FD.unset_nx, FD.unset_bk, FD.unset_ct, Option.bind_some, Option.map_some, FD.gI_int, FD.gI0_int, FD.cI_int, FD.gAdd_int, FD.gNeg_int, FD.eqD_int, FD.eqD_str, FD.eqD_bl, FD.eqD_non, FD.neg2_eq, FD.blD_bl, FD.truD_non, FD.truD_bl, FD.truD_int, FD.truD_tup, FD.truD_lst, FD.truD_fls, FD.truD_dic, FD.Dt.seq_tup, FD.Dt.seq_lst, FD.Dt.seq_fls, FD.gLen_tup, FD.gLen_lst, FD.gLen_fls, FD.gInt_int, FD.gInt_bl, FD.gAbs_int, FD.gGcd_int, FD.gIntA_int, FD.gIntA_bl, FD.gIx_tup, FD.gIx_lst, FD.gIx_fls, FD.isi_int_int, FD.isi_int_bool, FD.isi_bool_int, FD.isi_bool_bool, FD.isi_tup, FD.isi_lst, List.map_cons, List.map_nil, List.length_cons, List.length_nil, List.cons_append, List.nil_append, List.set_cons_zero, List.set_cons_succ, List.getElem?_cons_zero, List.getElem?_cons_succ, Nat.reduceAdd, Nat.reduceSub, Nat.zero_add, Nat.sub_self, List.replicate_zero, List.replicate_succ, Nat.reduceLeDiff, if_true, if_false, Bool.false_eq_true, Bool.not_true, Bool.not_false, decide_eq_true_eq, hd, decide_false]
  | succ f ih =>
    intro left ps n x4 x3 hl hp
    have wp := W60_pos
    by_cases h : left < W60
    · refine ⟨left, ps, x3, h, by omega, .inl ⟨rfl, rfl⟩, ?_⟩
      rw [sWhile_eq]
      have hd : ¬ (W60 : Int) ≤ (left : Int) := by omega
      simp only [FD.sSeq_ap, FD.sNext_ap, FD.sBrk_ap, FD.sCont_ap, FD.sIf_ap, FD.sSet_ap, FD.sSetL_ap, FD.sDrop_ap, FD.sRet_ap, FD.sRetN_ap, FD.sFor_ap, FD.sAsg_ap, FD.sRaise_ap, FD.sAppend_ap, FD.sSetIx_ap, FD.eC_ap, FD.eVar_0, FD.eVar_s, FD.e1_ap, FD.e2_ap, FD.t1_ap, FD.t2_ap, FD.eT_ap, FD.tAnd_ap, FD.tOr_ap, FD.tNot_ap, FD.eIf_ap, FD.aNil_ap, FD.aCons_ap, FD.eTup_ap, FD.lLst_ap, FD.eL_ap, FD.eB_ap, FD.eCallR_ap, FD.eAnd_ap, FD.eOr_ap, FD.eNot_ap, FD.eChain_ap, FD.oSeq_ap, FD.oRange_ap, FD.oNone_ap, FD.oInt_ap, FD.lCut_ap, FD.gCutL_lst, FD.gCutL_fls, FD.frzD_int, FD.frzD_bl, FD.frzD_str, FD.frzD_non, FD.frzD_nil, FD.frzD_lst, FD.frzD_fls, FD.outS_nx, FD.outS_rt, FD.outS_exc, FD.runD_eq, FD.Out.bind_ok, FD.Out.bind_exc, FD.Out.bind_bad, FD.stE_ok, FD.stE_exc, FD.stE_bad, FD.andThen_nx, FD.andThen_bk, FD.andThen_ct, FD.andThen_rt, FD.andThen_exc, FD.andThen_bad, FD.ofO_some, FD.ofO_none, FD.Lo.d_sh, FD.Lo.d_ol, FD.Lo.d_od, FD.frz_nil, FD.frz_cons, FD.frz1_0, FD.frz1_n, FD.frz1_s, FD.uName_ap, FD.uTup_ap, FD.uCons_ap, FD.uNil_ap, FD.turn_nx, FD.turn_ct, FD.turn_bk, FD.turn_rt, FD.turn_exc, FD.forD_nil, FD.forD_n, FD.atI_0, FD.atI_1, FD.atI_2, FD.atI_3, FD.unset_rt, FD.unset_nx, FD.unset_bk, FD.unset_ct, Option.bind_some, Option.map_some, FD.gI_int, FD.gI0_int, FD.cI_int, FD.gAdd_int, FD.gNeg_int, FD.eqD_int, FD.eqD_str, FD.eqD_bl, FD.eqD_non, FD.neg2_eq, FD.blD_bl, FD.truD_non, FD.truD_bl, FD.truD_int, FD.truD_tup, FD.truD_lst, FD.truD_fls, FD.truD_dic, FD.Dt.seq_tup, FD.Dt.seq_lst, FD.Dt.seq_fls, FD.gLen_tup, FD.gLen_lst, FD.gLen_fls, FD.gInt_int, FD.gInt_bl, FD.gAbs_int, FD.gGcd_int, FD.gIntA_int, FD.gIntA_bl, FD.gIx_tup, FD.gIx_lst, FD.gIx_fls, FD.isi_int_int, FD.isi_int_bool, FD.isi_bool_int, FD.isi_bool_bool, FD.isi_tup, FD.isi_lst, List.map_cons, List.map_nil, List.length_cons, List.length_nil, List.cons_append, List.nil_append, List.set_cons_zero, List.set_cons_succ, List.getElem?_cons_zero, List.getElem?_cons_succ, Nat.reduceAdd, Nat.reduceSub, Nat.zero_add, Nat.sub_self, List.replicate_zero, List.replicate_succ, Nat.reduceLeDiff, if_true, if_false, Bool.false_eq_true, Bool.not_true, Bool.not_false, decide_eq_true_eq, hd, decide_false]
    · have hq : 0 < left / W60 := Nat.div_pos (by omega) wp
      have hr : left % W60 < W60 := Nat.mod_lt _ wp
      have hl' : left / W60 < W60 ^ (f + 1) := by
        apply Nat.div_lt_of_lt_mul
        rw [Nat.mul_comm, ← Nat.pow_succ]
        exact hl
      obtain ⟨left', ps', x3', a1, a2, a3, a4⟩ := ih (left / W60) (ps ++ [pad 60 (left % W60)]) n x4 (some (.sh (.int ((left % W60 : Nat) : Int)))) hl' (by rw [List.length_append, List.length_singleton]; omega)
      have hsplit : numL left = numL (left / W60) ++ pad 60 (left % W60) := by
        have e : left / W60 * W60 + left % W60 = left := by
          rw [Nat.mul_comm]
          exact Nat.div_add_mod left W60
        have := num_padW hq hr
        rw [e] at this
        exact this
      refine ⟨left', ps', x3', a1, by rw [List.length_append, List.length_singleton] at a2; omega, .inr ?_, ?_⟩
      · rcases a3 with ⟨e1, e2⟩ | ⟨e1, qs, e2, e3⟩
        · refine ⟨by omega, [pad 60 (left % W60)], e2, ?_⟩
          rw [hsplit, e1]
          simp
        · refine ⟨e1, pad 60 (left % W60) :: qs, by rw [e2, List.append_assoc]; rfl, ?_⟩
          rw [hsplit, e3, List.reverse_cons, List.flatten_append, List.append_assoc]
          simp
      · rw [sWhile_eq]
        have hd : (W60 : Int) ≤ (left : Int) := by omega
        have f1 : Int.fdiv (left : Int) (W60 : Int) = ((left / W60 : Nat) : Int) := by
          rw [Int.fdiv_eq_ediv_of_nonneg _ (by omega)]
          exact (Int.natCast_ediv _ _).symm
        have f2 : Int.fmod (left : Int) (W60 : Int) = ((left % W60 : Nat) : Int) := by
          rw [Int.fmod_eq_emod_of_nonneg _ (by omega)]
          exact (Int.natCast_emod _ _).symm
        have g1 := g_str (bdW hr)
        rw [numI_nat] at g1
        have z := zfillW hr
        have ln : (piecesD ps).length < 16777216 := by unfold piecesD; rw [List.length_map]; omega
        have fz : frzD (Dt.tup [.int ((left / W60 : Nat) : Int), .int ((left % W60 : Nat) : Int)]) [1] [n, some (.sh (.int left)), some (.ol (piecesD ps)), x3, x4] = [n, some (.sh (.int left)), some (.ol (piecesD ps)), x3, x4] := frzD_pure rfl
        have m1 : eM1 (eB gStr (aCons (eVar 3) aNil)) (eC (.int 60)) gZfill [n, some (.sh (.int ((left / W60 : Nat) : Int))), some (.ol (piecesD ps)), some (.sh (.int ((left % W60 : Nat) : Int))), x4] = .ok (.str (S (pad 60 (left % W60)))) := by
          unfold eM1
          simp only [FD.sSeq_ap, FD.sNext_ap, FD.sBrk_ap, FD.sCont_ap, FD.sIf_ap, FD.sSet_ap, FD.sSetL_ap, FD.sDrop_ap, FD.sRet_ap, FD.sRetN_ap, FD.sFor_ap, FD.sAsg_ap, FD.sRaise_ap, FD.sAppend_ap, FD.sSetIx_ap, FD.eC_ap, FD.eVar_0, FD.eVar_s, FD.e1_ap, FD.e2_ap, FD.t1_ap, FD.t2_ap, FD.eT_ap, FD.tAnd_ap, FD.tOr_ap, FD.tNot_ap, FD.eIf_ap, FD.aNil_ap, FD.aCons_ap, FD.eTup_ap, FD.lLst_ap, FD.eL_ap, FD.eB_ap, FD.eCallR_ap, FD.eAnd_ap, FD.eOr_ap, FD.eNot_ap, FD.eChain_ap, FD.oSeq_ap, FD.oRange_ap, FD.oNone_ap, FD.oInt_ap, FD.lCut_ap, FD.gCutL_lst, FD.gCutL_fls, FD.frzD_int, FD.frzD_bl, FD.frzD_str, FD.frzD_non, FD.frzD_nil, FD.frzD_lst, FD.frzD_fls, FD.outS_nx, FD.outS_rt, FD.outS_exc, FD.runD_eq, FD.Out.bind_ok, FD.Out.bind_exc, FD.Out.bind_bad, FD.stE_ok, FD.stE_exc, FD.stE_bad, FD.andThen_nx, FD.andThen_bk, FD.andThen_ct, FD.andThen_rt, FD.andThen_exc, FD.andThen_bad, FD.ofO_some, FD.ofO_none, FD.Lo.d_sh, FD.Lo.d_ol, FD.Lo.d_od, FD.frz_nil, FD.frz_cons, FD.frz1_0, FD.frz1_n, FD.frz1_s, FD.uName_ap, FD.uTup_ap, FD.uCons_ap, FD.uNil_ap, FD.turn_nx, FD.turn_ct, FD.turn_bk, FD.turn_rt, FD.turn_exc, FD.forD_nil, FD.forD_n, FD.atI_0, FD.atI_1, FD.atI_2, FD.atI_3, FD.unset_rt, FD.unset_nx, FD.unset_bk, FD.unset_ct, Option.bind_some, Option.map_some, FD.gI_int, FD.gI0_int, FD.cI_int, FD.gAdd_int, FD.gNeg_int, FD.eqD_int, FD.eqD_str, FD.eqD_bl, FD.eqD_non, FD.neg2_eq, FD.blD_bl, FD.truD_non, FD.truD_bl, FD.truD_int, FD.truD_tup, FD.truD_lst, FD.truD_fls, FD.truD_dic, FD.Dt.seq_tup, FD.Dt.seq_lst, FD.Dt.seq_fls, FD.gLen_tup, FD.gLen_lst, FD.gLen_fls, FD.gInt_int, FD.gInt_bl, FD.gAbs_int, FD.gGcd_int, FD.gIntA_int, FD.gIntA_bl, FD.gIx_tup, FD.gIx_lst, FD.gIx_fls, FD.isi_int_int, FD.isi_int_bool, FD.isi_bool_int, FD.isi_bool_bool, FD.isi_tup, FD.isi_lst, List.map_cons, List.map_nil, List.length_cons, List.length_nil, List.cons_append, List.nil_append, List.set_cons_zero, List.set_cons_succ, List.getElem?_cons_zero, List.getElem?_cons_succ, Nat.reduceAdd, Nat.reduceSub, Nat.zero_add, Nat.sub_self, List.replicate_zero, List.replicate_succ, Nat.reduceLeDiff, if_true, if_false, Bool.false_eq_true, Bool.not_true, Bool.not_false, decide_eq_true_eq, g1]
          show ofO (if PadOk 60 = true then some (Dt.str (Txt.zfill (S (numL (left % W60))) 60)) else none) = _
          rw [if_pos pad60, z]
          rfl
        have ep : piecesD ps ++ [Dt.str (S (pad 60 (left % W60)))] = piecesD (ps ++ [pad 60 (left % W60)]) := by
          unfold piecesD
          rw [List.map_append]
          rfl
        simp only [FD.sSeq_ap, FD.sNext_ap, FD.sBrk_ap, FD.sCont_ap, FD.sIf_ap, FD.sSet_ap, FD.sSetL_ap, FD.sDrop_ap, FD.sRet_ap, FD.sRetN_ap, FD.sFor_ap, FD.sAsg_ap, FD.sRaise_ap, FD.sAppend_ap, FD.sSetIx_ap, FD.eC_ap, FD.eVar_0, FD.eVar_s, FD.e1_ap, FD.e2_ap, FD.t1_ap, FD.t2_ap, FD.eT_ap, FD.tAnd_ap, FD.tOr_ap, FD.tNot_ap, FD.eIf_ap, FD.aNil_ap, FD.aCons_ap, FD.eTup_ap, FD.lLst_ap, FD.eL_ap, FD.eB_ap, FD.eCallR_ap, FD.eAnd_ap, FD.eOr_ap, FD.eNot_ap, FD.eChain_ap, FD.oSeq_ap, FD.oRange_ap, FD.oNone_ap, FD.oInt_ap, FD.lCut_ap, FD.gCutL_lst, FD.gCutL_fls, FD.frzD_int, FD.frzD_bl, FD.frzD_str, FD.frzD_non, FD.frzD_nil, FD.frzD_lst, FD.frzD_fls, FD.outS_nx, FD.outS_rt, FD.outS_exc, FD.runD_eq, FD.Out.bind_ok, FD.Out.bind_exc, FD.Out.bind_bad, FD.stE_ok, FD.stE_exc, FD.stE_bad, FD.andThen_nx, FD.andThen_bk, FD.andThen_ct, FD.andThen_rt, FD.andThen_exc, FD.andThen_bad, FD.ofO_some, FD.ofO_none, FD.Lo.d_sh, FD.Lo.d_ol, FD.Lo.d_od, FD.frz_nil, FD.frz_cons, FD.frz1_0, FD.frz1_n, FD.frz1_s, FD.uName_ap, FD.uTup_ap, FD.uCons_ap, FD.uNil_ap, FD.turn_nx, FD.turn_ct, FD.turn_bk, FD.turn_rt, FD.turn_exc, FD.forD_nil, FD.forD_n, FD.atI_0, FD.atI_1, FD.atI_2, FD.atI_3, FD.unset_rt, FD.unset_nx, FD.unset_bk, FD.unset_ct, Option.bind_some, Option.map_some, FD.gI_int, FD.gI0_int, FD.cI_int, FD.gAdd_int, FD.gNeg_int, FD.eqD_int, FD.eqD_str, FD.eqD_bl, FD.eqD_non, FD.neg2_eq, FD.blD_bl, FD.truD_non, FD.truD_bl, FD.truD_int, FD.truD_tup, FD.truD_lst, FD.truD_fls, FD.truD_dic, FD.Dt.seq_tup, FD.Dt.seq_lst, FD.Dt.seq_fls, FD.gLen_tup, FD.gLen_lst, FD.gLen_fls, FD.gInt_int, FD.gInt_bl, FD.gAbs_int, FD.gGcd_int, FD.gIntA_int, FD.gIntA_bl, FD.gIx_tup, FD.gIx_lst, FD.gIx_fls, FD.isi_int_int, FD.isi_int_bool, FD.isi_bool_int, FD.isi_bool_bool, FD.isi_tup, FD.isi_lst, List.map_cons, List.map_nil, List.length_cons, List.length_nil, List.cons_append, List.nil_append, List.set_cons_zero, List.set_cons_succ, List.getElem?_cons_zero, List.getElem?_cons_succ, Nat.reduceAdd, Nat.reduceSub, Nat.zero_add, Nat.sub_self, List.replicate_zero, List.replicate_succ, Nat.reduceLeDiff, if_true, if_false, Bool.false_eq_true, Bool.not_true, Bool.not_false, decide_eq_true_eq, hd, decide_true, gDivmod_int, divW, f1, f2, fz, m1, ln, ep]
        exact a4
end Lk01

set_option exponentiation.threshold 4000
namespace Lk01
open PySem L2 FD SX TL
variable {K : PySem.W.Frag} {cs : Cs}
theorem joinL_nil : ∀ l : List (List Nat), joinL [] l = l.flatten
  | [] => rfl
  | [x] => by
    show x = [x].flatten
    simp
  | x :: y :: l => by
    show x ++ ([] ++ joinL [] (y :: l)) = _
    rw [joinL_nil (y :: l)]
    simp
theorem join_nil (l : List (List Nat)) : Txt.join (S []) (l.map S) = S l.flatten := by
  rw [join_eq]
  apply ext_tl
  rw [tl_join, map_S_tl]
  exact joinL_nil l
theorem sum_flat : ∀ l : List (List Nat), sumLen (l.map S) = l.flatten.length
  | [] => rfl
  | x :: l => by
    show (S x).length + sumLen (l.map S) = _
    rw [sum_flat l, S_len, List.flatten_cons, List.length_append]
theorem strs_pieces (l : List (List Nat)) : piecesD l = (l.map S).map .str := by
  unfold piecesD
  rw [List.map_map]
  rfl
theorem join_pieces {l : List (List Nat)} (h : l.flatten.length ≤ 1000000) : gJoin (S []) (.lst (piecesD l)) = some (.str (S l.flatten)) := by
  unfold gJoin
  rw [Dt.seqL_lst, Option.bind_some, strs_pieces, strsD_map, Option.bind_some]
  unfold joinS
  rw [if_pos]
  · rw [join_nil]
  · rw [sum_flat, S_len]
    simp only [List.length_nil, Nat.mul_zero]
    omega
theorem piecesD_rev (l : List (List Nat)) : (piecesD l).reverse = piecesD l.reverse := by
  unfold piecesD
  rw [List.map_reverse]
theorem W_600 {n : Nat} (h : n < W60 ^ 10) : (numL n).length ≤ 600 := by
  refine numL_len (by decide) ?_
  rw [W60_val, ← Nat.pow_mul] at h
  exact h
theorem str_dash : (Str.ofString "-") = S [45] := by decide
theorem str_none : (Str.ofString "") = S [] := by decide
theorem str_slash : (Str.ofString "/") = S [47] := by decide
theorem g_cat {a b : List Nat} (h : a.length + b.length ≤ 16777216) : gAdd (.str (S a)) (.str (S b)) = some (.str (S (a ++ b))) := by
  rw [gAdd_str, S_len, S_len, if_pos h, S_cat]
theorem abs_nat (n : Int) : (if n < 0 then -n else n) = ((n.natAbs : Nat) : Int) := by split <;> omega
theorem e_int_text {n : Int} (hn : n.natAbs < W60 ^ 10) : m_integer_text K cs [.int n] = .ok (.str (S (numI n))) := by
  obtain ⟨left, ps, x3, h1, h2, h3, e⟩ := int_loop 9 n.natAbs [] (some (.sh (.int n))) none none hn (by decide)
  have hflat : numL n.natAbs = ((ps ++ [numL left]).reverse).flatten := by
    rcases h3 with ⟨rfl, rfl⟩ | ⟨_, qs, rfl, h4⟩
    · simp
    · rw [h4]
      simp
  have hlen := W_600 hn
  have g1 := g_str (bdW h1)
  rw [numI_nat] at g1
  have ln : (piecesD ps).length < 16777216 := by
    unfold piecesD
    rw [List.length_map]
    simp only [List.length_nil] at h2
    omega
  have ep : piecesD ps ++ [Dt.str (S (numL left))] = piecesD (ps ++ [numL left]) := by
    unfold piecesD
    rw [List.map_append]
    rfl
  have jn : eM1 (eC (.str (Str.ofString ""))) (eL (lRev (eVar 2))) gJoin = eM1 (eC (.str (S []))) (eL (lRev (eVar 2))) gJoin := by rw [str_none]
  have rv : ∀ (a b c d : Option Lo), eM1 (eC (.str (S []))) (eL (lRev (eVar 2))) gJoin [a, b, some (.ol (piecesD (ps ++ [numL left]))), c, d] = .ok (.str (S (numL n.natAbs))) := by
    intro a b c d
    unfold eM1 lRev
    simp only [FD.sSeq_ap, FD.sNext_ap, FD.sBrk_ap, FD.sCont_ap, FD.sIf_ap, FD.sSet_ap, FD.sSetL_ap, FD.sDrop_ap, FD.sRet_ap, FD.sRetN_ap, FD.sFor_ap, FD.sAsg_ap, FD.sRaise_ap, FD.sAppend_ap, FD.sSetIx_ap, FD.eC_ap, FD.eVar_0, FD.eVar_s, FD.e1_ap, FD.e2_ap, FD.t1_ap, FD.t2_ap, FD.eT_ap, FD.tAnd_ap, FD.tOr_ap, FD.tNot_ap, FD.eIf_ap, FD.aNil_ap, FD.aCons_ap, FD.eTup_ap, FD.lLst_ap, FD.eL_ap, FD.eB_ap, FD.eCallR_ap, FD.eAnd_ap, FD.eOr_ap, FD.eNot_ap, FD.eChain_ap, FD.oSeq_ap, FD.oRange_ap, FD.oNone_ap, FD.oInt_ap, FD.lCut_ap, FD.gCutL_lst, FD.gCutL_fls, FD.frzD_int, FD.frzD_bl, FD.frzD_str, FD.frzD_non, FD.frzD_nil, FD.frzD_lst, FD.frzD_fls, FD.outS_nx, FD.outS_rt, FD.outS_exc, FD.runD_eq, FD.Out.bind_ok, FD.Out.bind_exc, FD.Out.bind_bad, FD.stE_ok, FD.stE_exc, FD.stE_bad, FD.andThen_nx, FD.andThen_bk, FD.andThen_ct, FD.andThen_rt, FD.andThen_exc, FD.andThen_bad, FD.ofO_some, FD.ofO_none, FD.Lo.d_sh, FD.Lo.d_ol, FD.Lo.d_od, FD.frz_nil, FD.frz_cons, FD.frz1_0, FD.frz1_n, FD.frz1_s, FD.uName_ap, FD.uTup_ap, FD.uCons_ap, FD.uNil_ap, FD.turn_nx, FD.turn_ct, FD.turn_bk, FD.turn_rt, FD.turn_exc, FD.forD_nil, FD.forD_n, FD.atI_0, FD.atI_1, FD.atI_2, FD.atI_3, FD.unset_rt, FD.unset_nx, FD.unset_bk, FD.unset_ct, Option.bind_some, Option.map_some, FD.gI_int, FD.gI0_int, FD.cI_int, FD.gAdd_int, FD.gNeg_int, FD.eqD_int, FD.eqD_str, FD.eqD_bl, FD.eqD_non, FD.neg2_eq, FD.blD_bl, FD.truD_non, FD.truD_bl, FD.truD_int, FD.truD_tup, FD.truD_lst, FD.truD_fls, FD.truD_dic, FD.Dt.seq_tup, FD.Dt.seq_lst, FD.Dt.seq_fls, FD.gLen_tup, FD.gLen_lst, FD.gLen_fls, FD.gInt_int, FD.gInt_bl, FD.gAbs_int, FD.gGcd_int, FD.gIntA_int, FD.gIntA_bl, FD.gIx_tup, FD.gIx_lst, FD.gIx_fls, FD.isi_int_int, FD.isi_int_bool, FD.isi_bool_int, FD.isi_bool_bool, FD.isi_tup, FD.isi_lst, List.map_cons, List.map_nil, List.length_cons, List.length_nil, List.cons_append, List.nil_append, List.set_cons_zero, List.set_cons_succ, List.getElem?_cons_zero, List.getElem?_cons_succ, Nat.reduceAdd, Nat.reduceSub, Nat.zero_add, Nat.sub_self, List.replicate_zero, List.replicate_succ, Nat.reduceLeDiff, if_true, if_false, Bool.false_eq_true, Bool.not_true, Bool.not_false, decide_eq_true_eq]
    show ofO (gJoin (S []) (.lst (piecesD (ps ++ [numL left])).reverse)) = _
    rw [piecesD_rev, join_pieces, ← hflat]
    · rfl
    · rw [← hflat]
      omega
  have e0 : piecesD [] = [] := rfl
  rw [e0, ← W60_int] at e
  unfold m_integer_text argN b_integer_text
  have c1 := g_cat (a := [45]) (b := numL n.natAbs) (by simp only [List.length_cons, List.length_nil]; omega)
  have c2 := g_cat (a := []) (b := numL n.natAbs) (by simp only [List.length_nil]; omega)
  have z0 : (0 : Nat) ≤ 16777216 := Nat.zero_le _
  by_cases hneg : n < 0
  · have ea : ((n.natAbs : Nat) : Int) = -n := by omega
    rw [ea] at e
    simp only [FD.sSeq_ap, FD.sNext_ap, FD.sBrk_ap, FD.sCont_ap, FD.sIf_ap, FD.sSet_ap, FD.sSetL_ap, FD.sDrop_ap, FD.sRet_ap, FD.sRetN_ap, FD.sFor_ap, FD.sAsg_ap, FD.sRaise_ap, FD.sAppend_ap, FD.sSetIx_ap, FD.eC_ap, FD.eVar_0, FD.eVar_s, FD.e1_ap, FD.e2_ap, FD.t1_ap, FD.t2_ap, FD.eT_ap, FD.tAnd_ap, FD.tOr_ap, FD.tNot_ap, FD.eIf_ap, FD.aNil_ap, FD.aCons_ap, FD.eTup_ap, FD.lLst_ap, FD.eL_ap, FD.eB_ap, FD.eCallR_ap, FD.eAnd_ap, FD.eOr_ap, FD.eNot_ap, FD.eChain_ap, FD.oSeq_ap, FD.oRange_ap, FD.oNone_ap, FD.oInt_ap, FD.lCut_ap, FD.gCutL_lst, FD.gCutL_fls, FD.frzD_int, FD.frzD_bl, FD.frzD_str, FD.frzD_non, FD.frzD_nil, FD.frzD_lst, FD.frzD_fls, FD.outS_nx, FD.outS_rt, FD.outS_exc, FD.runD_eq, FD.Out.bind_ok, FD.Out.bind_exc, FD.Out.bind_bad, FD.stE_ok, FD.stE_exc, FD.stE_bad, FD.andThen_nx, FD.andThen_bk, FD.andThen_ct, FD.andThen_rt, FD.andThen_exc, FD.andThen_bad, FD.ofO_some, FD.ofO_none, FD.Lo.d_sh, FD.Lo.d_ol, FD.Lo.d_od, FD.frz_nil, FD.frz_cons, FD.frz1_0, FD.frz1_n, FD.frz1_s, FD.uName_ap, FD.uTup_ap, FD.uCons_ap, FD.uNil_ap, FD.turn_nx, FD.turn_ct, FD.turn_bk, FD.turn_rt, FD.turn_exc, FD.forD_nil, FD.forD_n, FD.atI_0, FD.atI_1, FD.atI_2, FD.atI_3, FD.unset_rt, FD.unset_nx, FD.unset_bk, FD.unset_ct, Option.bind_some, Option.map_some, FD.gI_int, FD.gI0_int, FD.cI_int, FD.gAdd_int, FD.gNeg_int, FD.eqD_int, FD.eqD_str, FD.eqD_bl, FD.eqD_non, FD.neg2_eq, FD.blD_bl, FD.truD_non, FD.truD_bl, FD.truD_int, FD.truD_tup, FD.truD_lst, FD.truD_fls, FD.truD_dic, FD.Dt.seq_tup, FD.Dt.seq_lst, FD.Dt.seq_fls, FD.gLen_tup, FD.gLen_lst, FD.gLen_fls, FD.gInt_int, FD.gInt_bl, FD.gAbs_int, FD.gGcd_int, FD.gIntA_int, FD.gIntA_bl, FD.gIx_tup, FD.gIx_lst, FD.gIx_fls, FD.isi_int_int, FD.isi_int_bool, FD.isi_bool_int, FD.isi_bool_bool, FD.isi_tup, FD.isi_lst, List.map_cons, List.map_nil, List.length_cons, List.length_nil, List.cons_append, List.nil_append, List.set_cons_zero, List.set_cons_succ, List.getElem?_cons_zero, List.getElem?_cons_succ, Nat.reduceAdd, Nat.reduceSub, Nat.zero_add, Nat.sub_self, List.replicate_zero, List.replicate_succ, Nat.reduceLeDiff, if_true, if_false, Bool.false_eq_true, Bool.not_true, Bool.not_false, decide_eq_true_eq, z0, e, g1, ln, ep, hneg, decide_true, str_dash, jn, rv, c1]
    unfold numI
    rw [if_pos hneg]
  · have ea : ((n.natAbs : Nat) : Int) = n := by omega
    rw [ea] at e
    simp only [FD.sSeq_ap, FD.sNext_ap, FD.sBrk_ap, FD.sCont_ap, FD.sIf_ap, FD.sSet_ap, FD.sSetL_ap, FD.sDrop_ap, FD.sRet_ap, FD.sRetN_ap, FD.sFor_ap, FD.sAsg_ap, FD.sRaise_ap, FD.sAppend_ap, FD.sSetIx_ap, FD.eC_ap, FD.eVar_0, FD.eVar_s, FD.e1_ap, FD.e2_ap, FD.t1_ap, FD.t2_ap, FD.eT_ap, FD.tAnd_ap, FD.tOr_ap, FD.tNot_ap, FD.eIf_ap, FD.aNil_ap, FD.aCons_ap, FD.eTup_ap, FD.lLst_ap, FD.eL_ap, FD.eB_ap, FD.eCallR_ap, FD.eAnd_ap, FD.eOr_ap, FD.eNot_ap, FD.eChain_ap, FD.oSeq_ap, FD.oRange_ap, FD.oNone_ap, FD.oInt_ap, FD.lCut_ap, FD.gCutL_lst, FD.gCutL_fls, FD.frzD_int, FD.frzD_bl, FD.frzD_str, FD.frzD_non, FD.frzD_nil, FD.frzD_lst, FD.frzD_fls, FD.outS_nx, FD.outS_rt, FD.outS_exc, FD.runD_eq, FD.Out.bind_ok, FD.Out.bind_exc, FD.Out.bind_bad, FD.stE_ok, FD.stE_exc, FD.stE_bad, FD.andThen_nx, FD.andThen_bk, FD.andThen_ct, FD.andThen_rt, FD.andThen_exc, FD.andThen_bad, FD.ofO_some, FD.ofO_none, FD.Lo.d_sh, FD.Lo.d_ol, FD.Lo.d_od, FD.frz_nil, FD.frz_cons, FD.frz1_0, FD.frz1_n, FD.frz1_s, FD.uName_ap, FD.uTup_ap, FD.uCons_ap, FD.uNil_ap, FD.turn_nx, FD.turn_ct, FD.turn_bk, FD.turn_rt, FD.turn_exc, FD.forD_nil, FD.forD_n, FD.atI_0, FD.atI_1, FD.atI_2, FD.atI_3, FD.unset_rt, FD.unset_nx, FD.unset_bk, FD.unset_ct, Option.bind_some, Option.map_some, FD.gI_int, FD.gI0_int, FD.cI_int, FD.gAdd_int, FD.gNeg_int, FD.eqD_int, FD.eqD_str, FD.eqD_bl, FD.eqD_non, FD.neg2_eq, FD.blD_bl, FD.truD_non, FD.truD_bl, FD.truD_int, FD.truD_tup, FD.truD_lst, FD.truD_fls, FD.truD_dic, FD.Dt.seq_tup, FD.Dt.seq_lst, FD.Dt.seq_fls, FD.gLen_tup, FD.gLen_lst, FD.gLen_fls, FD.gInt_int, FD.gInt_bl, FD.gAbs_int, FD.gGcd_int, FD.gIntA_int, FD.gIntA_bl, FD.gIx_tup, FD.gIx_lst, FD.gIx_fls, FD.isi_int_int, FD.isi_int_bool, FD.isi_bool_int, FD.isi_bool_bool, FD.isi_tup, FD.isi_lst, List.map_cons, List.map_nil, List.length_cons, List.length_nil, List.cons_append, List.nil_append, List.set_cons_zero, List.set_cons_succ, List.getElem?_cons_zero, List.getElem?_cons_succ, Nat.reduceAdd, Nat.reduceSub, Nat.zero_add, Nat.sub_self, List.replicate_zero, List.replicate_succ, Nat.reduceLeDiff, if_true, if_false, Bool.false_eq_true, Bool.not_true, Bool.not_false, decide_eq_true_eq, z0, e, g1, ln, ep, hneg, decide_false, str_none, rv, c2]
    unfold numI
    rw [if_neg hneg]
/-- the signs of n / d -/
def textL (n d : Int) : List Nat := if d = 1 then numI n else numI n ++ (47 :: numI d)
theorem numI_len {n : Int} (h : n.natAbs < W60 ^ 10) : (numI n).length ≤ 601 := by
  have := W_600 h
  unfold numI
  split <;> simp <;> omega
theorem e_exact_text {n d : Int} (hn : n.natAbs < W60 ^ 10) (hd : d.natAbs < W60 ^ 10) : m_exact_text K cs [.tup [.int n, .int d]] = .ok (.str (S (textL n d))) := by
  unfold m_exact_text argN b_exact_text textL
  by_cases h : d = 1
  · subst h
    simp only [FD.sSeq_ap, FD.sNext_ap, FD.sBrk_ap, FD.sCont_ap, FD.sIf_ap, FD.sSet_ap, FD.sSetL_ap, FD.sDrop_ap, FD.sRet_ap, FD.sRetN_ap, FD.sFor_ap, FD.sAsg_ap, FD.sRaise_ap, FD.sAppend_ap, FD.sSetIx_ap, FD.eC_ap, FD.eVar_0, FD.eVar_s, FD.e1_ap, FD.e2_ap, FD.t1_ap, FD.t2_ap, FD.eT_ap, FD.tAnd_ap, FD.tOr_ap, FD.tNot_ap, FD.eIf_ap, FD.aNil_ap, FD.aCons_ap, FD.eTup_ap, FD.lLst_ap, FD.eL_ap, FD.eB_ap, FD.eCallR_ap, FD.eAnd_ap, FD.eOr_ap, FD.eNot_ap, FD.eChain_ap, FD.oSeq_ap, FD.oRange_ap, FD.oNone_ap, FD.oInt_ap, FD.lCut_ap, FD.gCutL_lst, FD.gCutL_fls, FD.frzD_int, FD.frzD_bl, FD.frzD_str, FD.frzD_non, FD.frzD_nil, FD.frzD_lst, FD.frzD_fls, FD.outS_nx, FD.outS_rt, FD.outS_exc, FD.runD_eq, FD.Out.bind_ok, FD.Out.bind_exc, FD.Out.bind_bad, FD.stE_ok, FD.stE_exc, FD.stE_bad, FD.andThen_nx, FD.andThen_bk, FD.andThen_ct, FD.andThen_rt, FD.andThen_exc, FD.andThen_bad, FD.ofO_some, FD.ofO_none, FD.Lo.d_sh, FD.Lo.d_ol, FD.Lo.d_od, FD.frz_nil, FD.frz_cons, FD.frz1_0, FD.frz1_n, FD.frz1_s, FD.uName_ap, FD.uTup_ap, FD.uCons_ap, FD.uNil_ap, FD.turn_nx, FD.turn_ct, FD.turn_bk, FD.turn_rt, FD.turn_exc, FD.forD_nil, FD.forD_n, FD.atI_0, FD.atI_1, FD.atI_2, FD.atI_3, FD.unset_rt, FD.unset_nx, FD.unset_bk, FD.unset_ct, Option.bind_some, Option.map_some, FD.gI_int, FD.gI0_int, FD.cI_int, FD.gAdd_int, FD.gNeg_int, FD.eqD_int, FD.eqD_str, FD.eqD_bl, FD.eqD_non, FD.neg2_eq, FD.blD_bl, FD.truD_non, FD.truD_bl, FD.truD_int, FD.truD_tup, FD.truD_lst, FD.truD_fls, FD.truD_dic, FD.Dt.seq_tup, FD.Dt.seq_lst, FD.Dt.seq_fls, FD.gLen_tup, FD.gLen_lst, FD.gLen_fls, FD.gInt_int, FD.gInt_bl, FD.gAbs_int, FD.gGcd_int, FD.gIntA_int, FD.gIntA_bl, FD.gIx_tup, FD.gIx_lst, FD.gIx_fls, FD.isi_int_int, FD.isi_int_bool, FD.isi_bool_int, FD.isi_bool_bool, FD.isi_tup, FD.isi_lst, List.map_cons, List.map_nil, List.length_cons, List.length_nil, List.cons_append, List.nil_append, List.set_cons_zero, List.set_cons_succ, List.getElem?_cons_zero, List.getElem?_cons_succ, Nat.reduceAdd, Nat.reduceSub, Nat.zero_add, Nat.sub_self, List.replicate_zero, List.replicate_succ, Nat.reduceLeDiff, if_true, if_false, Bool.false_eq_true, Bool.not_true, Bool.not_false, decide_eq_true_eq, beq_self_eq_true, e_int_text hn]
  · have hb : (d == 1) = false := by simpa using h
    have l1 := numI_len hn
    have l2 := numI_len hd
    have f1 : gFmt (.str (S (numI n))) = some (.str (S (numI n))) := by rw [gFmt_str, if_pos (by rw [S_len]; omega)]
    have f2 : gFmt (.str (S (numI d))) = some (.str (S (numI d))) := by rw [gFmt_str, if_pos (by rw [S_len]; omega)]
    rw [if_neg h]
    have em : (Str.empty) = S [] := rfl
    have i1 : ((S (numI n)).length ≤ 16777216) = True := eq_true (by rw [S_len]; omega)
    have i2 : ((S (numI n ++ [47])).length ≤ 16777216) = True := eq_true (by rw [S_len]; simp; omega)
    have i3 : ((S (numI n ++ [47] ++ numI d)).length ≤ 16777216) = True := eq_true (by rw [S_len]; simp; omega)
    simp only [FD.sSeq_ap, FD.sNext_ap, FD.sBrk_ap, FD.sCont_ap, FD.sIf_ap, FD.sSet_ap, FD.sSetL_ap, FD.sDrop_ap, FD.sRet_ap, FD.sRetN_ap, FD.sFor_ap, FD.sAsg_ap, FD.sRaise_ap, FD.sAppend_ap, FD.sSetIx_ap, FD.eC_ap, FD.eVar_0, FD.eVar_s, FD.e1_ap, FD.e2_ap, FD.t1_ap, FD.t2_ap, FD.eT_ap, FD.tAnd_ap, FD.tOr_ap, FD.tNot_ap, FD.eIf_ap, FD.aNil_ap, FD.aCons_ap, FD.eTup_ap, FD.lLst_ap, FD.eL_ap, FD.eB_ap, FD.eCallR_ap, FD.eAnd_ap, FD.eOr_ap, FD.eNot_ap, FD.eChain_ap, FD.oSeq_ap, FD.oRange_ap, FD.oNone_ap, FD.oInt_ap, FD.lCut_ap, FD.gCutL_lst, FD.gCutL_fls, FD.frzD_int, FD.frzD_bl, FD.frzD_str, FD.frzD_non, FD.frzD_nil, FD.frzD_lst, FD.frzD_fls, FD.outS_nx, FD.outS_rt, FD.outS_exc, FD.runD_eq, FD.Out.bind_ok, FD.Out.bind_exc, FD.Out.bind_bad, FD.stE_ok, FD.stE_exc, FD.stE_bad, FD.andThen_nx, FD.andThen_bk, FD.andThen_ct, FD.andThen_rt, FD.andThen_exc, FD.andThen_bad, FD.ofO_some, FD.ofO_none, FD.Lo.d_sh, FD.Lo.d_ol, FD.Lo.d_od, FD.frz_nil, FD.frz_cons, FD.frz1_0, FD.frz1_n, FD.frz1_s, FD.uName_ap, FD.uTup_ap, FD.uCons_ap, FD.uNil_ap, FD.turn_nx, FD.turn_ct, FD.turn_bk, FD.turn_rt, FD.turn_exc, FD.forD_nil, FD.forD_n, FD.atI_0, FD.atI_1, FD.atI_2, FD.atI_3, FD.unset_rt, FD.unset_nx, FD.unset_bk, FD.unset_ct, Option.bind_some, Option.map_some, FD.gI_int, FD.gI0_int, FD.cI_int, FD.gAdd_int, FD.gNeg_int, FD.eqD_int, FD.eqD_str, FD.eqD_bl, FD.eqD_non, FD.neg2_eq, FD.blD_bl, FD.truD_non, FD.truD_bl, FD.truD_int, FD.truD_tup, FD.truD_lst, FD.truD_fls, FD.truD_dic, FD.Dt.seq_tup, FD.Dt.seq_lst, FD.Dt.seq_fls, FD.gLen_tup, FD.gLen_lst, FD.gLen_fls, FD.gInt_int, FD.gInt_bl, FD.gAbs_int, FD.gGcd_int, FD.gIntA_int, FD.gIntA_bl, FD.gIx_tup, FD.gIx_lst, FD.gIx_fls, FD.isi_int_int, FD.isi_int_bool, FD.isi_bool_int, FD.isi_bool_bool, FD.isi_tup, FD.isi_lst, List.map_cons, List.map_nil, List.length_cons, List.length_nil, List.cons_append, List.nil_append, List.set_cons_zero, List.set_cons_succ, List.getElem?_cons_zero, List.getElem?_cons_succ, Nat.reduceAdd, Nat.reduceSub, Nat.zero_add, Nat.sub_self, List.replicate_zero, List.replicate_succ, Nat.reduceLeDiff, if_true, if_false, Bool.false_eq_true, Bool.not_true, Bool.not_false, decide_eq_true_eq, hb, eJ, jC, jN, em, e_int_text hn, e_int_text hd, f1, f2, str_slash, S_cat, List.nil_append, i1, i2, i3]
    simp
end Lk01

set_option exponentiation.threshold 4000
namespace Lk01
open PySem L2 FD SX TL
variable {K : PySem.W.Frag} {cs : Cs}
/-! ### digits -/
theorem uni_digit : ∀ c : Nat, c < 128 → (Unicode.isDigit c = true ↔ (48 ≤ c ∧ c ≤ 57)) := by decide +kernel
theorem back_char : ∀ c : Nat, c < 58 → (Char.ofNat c).toNat = c := by decide +kernel
/-- digits without a nought ahead are those of their number -/
theorem num_canon {w : List Nat} (hd : NumText.AllDigits w) (hne : w ≠ []) (h : w.length = 1 ∨ ∃ c r, w = c :: r ∧ 49 ≤ c) : numL (NumText.digitsVal w) = w := by
  obtain ⟨n, hn⟩ : ∃ n, w.length = n + 1 := ⟨w.length - 1, by have := List.length_pos_iff.mpr hne; omega⟩
  unfold numL
  rw [NumText.toDigits_digitsVal n w hn hd (h.imp (fun z => by omega) id), List.map_map]
  have : ∀ c ∈ w, (Char.toNat ∘ Char.ofNat) c = c := fun c hc => back_char c (by have := hd c hc; omega)
  rw [List.map_congr_left this]
  simp
theorem num_head {n : Nat} {r : List Nat} (h : numL n = 48 :: r) : r = [] := by
  induction n using Nat.strongRecOn generalizing r with
  | _ n ih =>
    by_cases hn : n < 10
    · rw [numL_lt hn] at h
      injection h with _ h2
      exact h2.symm
    · rw [numL_step (by omega)] at h
      cases hr : numL (n / 10) with
      | nil => exact absurd hr (numL_ne _)
      | cons c l =>
        rw [hr] at h
        have hc : c = 48 := by injection h
        subst hc
        have hl := ih (n / 10) (by omega) hr
        subst hl
        have hv := numL_val (n / 10)
        rw [hr] at hv
        have : n / 10 = 0 := hv.symm
        omega
theorem num_notZero {n : Nat} (h : n ≠ 0) : ∃ c r, numL n = c :: r ∧ 49 ≤ c := by
  cases hr : numL n with
  | nil => exact absurd hr (numL_ne _)
  | cons c l =>
    refine ⟨c, l, rfl, ?_⟩
    have hd := numL_digits n c (by rw [hr]; exact List.mem_cons_self)
    by_cases hc : c = 48
    · subst hc
      have := num_head hr
      subst this
      have hv := numL_val n
      rw [hr] at hv
      exact absurd hv.symm h
    · omega
/-- one to forty digits -/
def Dig (w : List Nat) : Prop := w ≠ [] ∧ w.length ≤ 40 ∧ NumText.AllDigits w
/-- digits as str writes them -/
def Can (w : List Nat) : Prop := Dig w ∧ numL (NumText.digitsVal w) = w
theorem can_num {n : Nat} (h : (numL n).length ≤ 40) : Can (numL n) := ⟨⟨numL_ne n, h, numL_digits n⟩, by rw [numL_val]⟩
theorem e_is_digits (w : List Nat) (hl : w.length ≤ 100000) : m_is_digits K cs [.str (S w)] = .ok (.bl (decide (w ≠ [] ∧ w.length ≤ 40 ∧ ∀ c ∈ w, 48 ≤ c ∧ c ≤ 57))) := by
  unfold m_is_digits argN b_is_digits
  have l1 : gLen [.str (S w)] = some (.int (w.length : Int)) := by
    rw [gLen_str, S_len, if_pos (by omega)]
  have a1 : eM0 (eVar 0) (gBl Txt.isascii) [some (.sh (.str (S w)))] = .ok (.bl (Txt.isascii (S w))) := rfl
  have a2 : eM0 (eVar 0) (gBl Txt.isdigit) [some (.sh (.str (S w)))] = .ok (.bl (Txt.isdigit (S w))) := rfl
  have i1 : Txt.isascii (S w) = w.all (· < 128) := by unfold Txt.isascii; simp [S]
  have i2 : Txt.isdigit (S w) = (decide (w.length > 0) && w.all Unicode.isDigit) := by unfold Txt.isdigit; rw [S_len]; simp [S]
  by_cases h40 : w.length ≤ 40
  · have h40' : ((w.length : Nat) : Int) ≤ 40 := by omega
    cases h128 : w.all (· < 128) with
    | false =>
      have hn : ¬ (w ≠ [] ∧ w.length ≤ 40 ∧ ∀ c ∈ w, 48 ≤ c ∧ c ≤ 57) := fun ⟨_, _, hd⟩ => by
        have : w.all (· < 128) = true := List.all_eq_true.mpr fun c hc => decide_eq_true (by have := hd c hc; omega)
        rw [h128] at this
        cases this
      simp only [FD.sSeq_ap, FD.sNext_ap, FD.sBrk_ap, FD.sCont_ap, FD.sIf_ap, FD.sSet_ap, FD.sSetL_ap, FD.sDrop_ap, FD.sRet_ap, FD.sRetN_ap, FD.sFor_ap, FD.sAsg_ap, FD.sRaise_ap, FD.sAppend_ap, FD.sSetIx_ap, FD.eC_ap, FD.eVar_0, FD.eVar_s, FD.e1_ap, FD.e2_ap, FD.t1_ap, FD.t2_ap, FD.eT_ap, FD.tAnd_ap, FD.tOr_ap, FD.tNot_ap, FD.eIf_ap, FD.aNil_ap, FD.aCons_ap, FD.eTup_ap, FD.lLst_ap, FD.eL_ap, FD.eB_ap, FD.eCallR_ap, FD.eAnd_ap, FD.eOr_ap, FD.eNot_ap, FD.eChain_ap, FD.oSeq_ap, FD.oRange_ap, FD.oNone_ap, FD.oInt_ap, FD.lCut_ap, FD.gCutL_lst, FD.gCutL_fls, FD.frzD_int, FD.frzD_bl, FD.frzD_str, FD.frzD_non, FD.frzD_nil, FD.frzD_lst, FD.frzD_fls, FD.outS_nx, FD.outS_rt, FD.outS_exc, FD.runD_eq, FD.Out.bind_ok, FD.Out.bind_exc, FD.Out.bind_bad, FD.stE_ok, FD.stE_exc, FD.stE_bad, FD.andThen_nx, FD.andThen_bk, FD.andThen_ct, FD.andThen_rt, FD.andThen_exc, FD.andThen_bad, FD.ofO_some, FD.ofO_none, FD.Lo.d_sh, FD.Lo.d_ol, FD.Lo.d_od, FD.frz_nil, FD.frz_cons, FD.frz1_0, FD.frz1_n, FD.frz1_s, FD.uName_ap, FD.uTup_ap, FD.uCons_ap, FD.uNil_ap, FD.turn_nx, FD.turn_ct, FD.turn_bk, FD.turn_rt, FD.turn_exc, FD.forD_nil, FD.forD_n, FD.atI_0, FD.atI_1, FD.atI_2, FD.atI_3, FD.unset_rt, FD.unset_nx, FD.unset_bk, FD.unset_ct, Option.bind_some, Option.map_some, FD.gI_int, FD.gI0_int, FD.cI_int, FD.gAdd_int, FD.gNeg_int, FD.eqD_int, FD.eqD_str, FD.eqD_bl, FD.eqD_non, FD.neg2_eq, FD.blD_bl, FD.truD_non, FD.truD_bl, FD.truD_int, FD.truD_tup, FD.truD_lst, FD.truD_fls, FD.truD_dic, FD.Dt.seq_tup, FD.Dt.seq_lst, FD.Dt.seq_fls, FD.gLen_tup, FD.gLen_lst, FD.gLen_fls, FD.gInt_int, FD.gInt_bl, FD.gAbs_int, FD.gGcd_int, FD.gIntA_int, FD.gIntA_bl, FD.gIx_tup, FD.gIx_lst, FD.gIx_fls, FD.isi_int_int, FD.isi_int_bool, FD.isi_bool_int, FD.isi_bool_bool, FD.isi_tup, FD.isi_lst, List.map_cons, List.map_nil, List.length_cons, List.length_nil, List.cons_append, List.nil_append, List.set_cons_zero, List.set_cons_succ, List.getElem?_cons_zero, List.getElem?_cons_succ, Nat.reduceAdd, Nat.reduceSub, Nat.zero_add, Nat.sub_self, List.replicate_zero, List.replicate_succ, Nat.reduceLeDiff, if_true, if_false, Bool.false_eq_true, Bool.not_true, Bool.not_false, decide_eq_true_eq, l1, h40', decide_true, a1, i1, h128, hn, decide_false]
    | true =>
      have hlt : ∀ c ∈ w, c < 128 := fun c hc => of_decide_eq_true (List.all_eq_true.mp h128 c hc)
      have e : (decide (w.length > 0) && w.all Unicode.isDigit) = decide (w ≠ [] ∧ w.length ≤ 40 ∧ ∀ c ∈ w, 48 ≤ c ∧ c ≤ 57) := by
        rw [Bool.eq_iff_iff, Bool.and_eq_true, decide_eq_true_iff, decide_eq_true_iff, List.all_eq_true]
        constructor
        · rintro ⟨h1, h2⟩
          exact ⟨fun z => by rw [z] at h1; simp at h1, h40, fun c hc => (uni_digit c (hlt c hc)).mp (h2 c hc)⟩
        · rintro ⟨h1, _, h2⟩
          exact ⟨List.length_pos_iff.mpr h1, fun c hc => (uni_digit c (hlt c hc)).mpr (h2 c hc)⟩
      simp only [FD.sSeq_ap, FD.sNext_ap, FD.sBrk_ap, FD.sCont_ap, FD.sIf_ap, FD.sSet_ap, FD.sSetL_ap, FD.sDrop_ap, FD.sRet_ap, FD.sRetN_ap, FD.sFor_ap, FD.sAsg_ap, FD.sRaise_ap, FD.sAppend_ap, FD.sSetIx_ap, FD.eC_ap, FD.eVar_0, FD.eVar_s, FD.e1_ap, FD.e2_ap, FD.t1_ap, FD.t2_ap, FD.eT_ap, FD.tAnd_ap, FD.tOr_ap, FD.tNot_ap, FD.eIf_ap, FD.aNil_ap, FD.aCons_ap, FD.eTup_ap, FD.lLst_ap, FD.eL_ap, FD.eB_ap, FD.eCallR_ap, FD.eAnd_ap, FD.eOr_ap, FD.eNot_ap, FD.eChain_ap, FD.oSeq_ap, FD.oRange_ap, FD.oNone_ap, FD.oInt_ap, FD.lCut_ap, FD.gCutL_lst, FD.gCutL_fls, FD.frzD_int, FD.frzD_bl, FD.frzD_str, FD.frzD_non, FD.frzD_nil, FD.frzD_lst, FD.frzD_fls, FD.outS_nx, FD.outS_rt, FD.outS_exc, FD.runD_eq, FD.Out.bind_ok, FD.Out.bind_exc, FD.Out.bind_bad, FD.stE_ok, FD.stE_exc, FD.stE_bad, FD.andThen_nx, FD.andThen_bk, FD.andThen_ct, FD.andThen_rt, FD.andThen_exc, FD.andThen_bad, FD.ofO_some, FD.ofO_none, FD.Lo.d_sh, FD.Lo.d_ol, FD.Lo.d_od, FD.frz_nil, FD.frz_cons, FD.frz1_0, FD.frz1_n, FD.frz1_s, FD.uName_ap, FD.uTup_ap, FD.uCons_ap, FD.uNil_ap, FD.turn_nx, FD.turn_ct, FD.turn_bk, FD.turn_rt, FD.turn_exc, FD.forD_nil, FD.forD_n, FD.atI_0, FD.atI_1, FD.atI_2, FD.atI_3, FD.unset_rt, FD.unset_nx, FD.unset_bk, FD.unset_ct, Option.bind_some, Option.map_some, FD.gI_int, FD.gI0_int, FD.cI_int, FD.gAdd_int, FD.gNeg_int, FD.eqD_int, FD.eqD_str, FD.eqD_bl, FD.eqD_non, FD.neg2_eq, FD.blD_bl, FD.truD_non, FD.truD_bl, FD.truD_int, FD.truD_tup, FD.truD_lst, FD.truD_fls, FD.truD_dic, FD.Dt.seq_tup, FD.Dt.seq_lst, FD.Dt.seq_fls, FD.gLen_tup, FD.gLen_lst, FD.gLen_fls, FD.gInt_int, FD.gInt_bl, FD.gAbs_int, FD.gGcd_int, FD.gIntA_int, FD.gIntA_bl, FD.gIx_tup, FD.gIx_lst, FD.gIx_fls, FD.isi_int_int, FD.isi_int_bool, FD.isi_bool_int, FD.isi_bool_bool, FD.isi_tup, FD.isi_lst, List.map_cons, List.map_nil, List.length_cons, List.length_nil, List.cons_append, List.nil_append, List.set_cons_zero, List.set_cons_succ, List.getElem?_cons_zero, List.getElem?_cons_succ, Nat.reduceAdd, Nat.reduceSub, Nat.zero_add, Nat.sub_self, List.replicate_zero, List.replicate_succ, Nat.reduceLeDiff, if_true, if_false, Bool.false_eq_true, Bool.not_true, Bool.not_false, decide_eq_true_eq, l1, h40', decide_true, a1, i1, h128, a2, i2, e]
  · have h40' : ¬ ((w.length : Nat) : Int) ≤ 40 := by omega
    have hn : ¬ (w ≠ [] ∧ w.length ≤ 40 ∧ ∀ c ∈ w, 48 ≤ c ∧ c ≤ 57) := fun ⟨_, h, _⟩ => h40 h
    simp only [FD.sSeq_ap, FD.sNext_ap, FD.sBrk_ap, FD.sCont_ap, FD.sIf_ap, FD.sSet_ap, FD.sSetL_ap, FD.sDrop_ap, FD.sRet_ap, FD.sRetN_ap, FD.sFor_ap, FD.sAsg_ap, FD.sRaise_ap, FD.sAppend_ap, FD.sSetIx_ap, FD.eC_ap, FD.eVar_0, FD.eVar_s, FD.e1_ap, FD.e2_ap, FD.t1_ap, FD.t2_ap, FD.eT_ap, FD.tAnd_ap, FD.tOr_ap, FD.tNot_ap, FD.eIf_ap, FD.aNil_ap, FD.aCons_ap, FD.eTup_ap, FD.lLst_ap, FD.eL_ap, FD.eB_ap, FD.eCallR_ap, FD.eAnd_ap, FD.eOr_ap, FD.eNot_ap, FD.eChain_ap, FD.oSeq_ap, FD.oRange_ap, FD.oNone_ap, FD.oInt_ap, FD.lCut_ap, FD.gCutL_lst, FD.gCutL_fls, FD.frzD_int, FD.frzD_bl, FD.frzD_str, FD.frzD_non, FD.frzD_nil, FD.frzD_lst, FD.frzD_fls, FD.outS_nx, FD.outS_rt, FD.outS_exc, FD.runD_eq, FD.Out.bind_ok, FD.Out.bind_exc, FD.Out.bind_bad, FD.stE_ok, FD.stE_exc, FD.stE_bad, FD.andThen_nx, FD.andThen_bk, FD.andThen_ct, FD.andThen_rt, FD.andThen_exc, FD.andThen_bad, FD.ofO_some, FD.ofO_none, FD.Lo.d_sh, FD.Lo.d_ol, FD.Lo.d_od, FD.frz_nil, FD.frz_cons, FD.frz1_0, FD.frz1_n, FD.frz1_s, FD.uName_ap, FD.uTup_ap, FD.uCons_ap, FD.uNil_ap, FD.turn_nx, FD.turn_ct, FD.turn_bk, FD.turn_rt, FD.turn_exc, FD.forD_nil, FD.forD_n, FD.atI_0, FD.atI_1, FD.atI_2, FD.atI_3, FD.unset_rt, FD.unset_nx, FD.unset_bk, FD.unset_ct, Option.bind_some, Option.map_some, FD.gI_int, FD.gI0_int, FD.cI_int, FD.gAdd_int, FD.gNeg_int, FD.eqD_int, FD.eqD_str, FD.eqD_bl, FD.eqD_non, FD.neg2_eq, FD.blD_bl, FD.truD_non, FD.truD_bl, FD.truD_int, FD.truD_tup, FD.truD_lst, FD.truD_fls, FD.truD_dic, FD.Dt.seq_tup, FD.Dt.seq_lst, FD.Dt.seq_fls, FD.gLen_tup, FD.gLen_lst, FD.gLen_fls, FD.gInt_int, FD.gInt_bl, FD.gAbs_int, FD.gGcd_int, FD.gIntA_int, FD.gIntA_bl, FD.gIx_tup, FD.gIx_lst, FD.gIx_fls, FD.isi_int_int, FD.isi_int_bool, FD.isi_bool_int, FD.isi_bool_bool, FD.isi_tup, FD.isi_lst, List.map_cons, List.map_nil, List.length_cons, List.length_nil, List.cons_append, List.nil_append, List.set_cons_zero, List.set_cons_succ, List.getElem?_cons_zero, List.getElem?_cons_succ, Nat.reduceAdd, Nat.reduceSub, Nat.zero_add, Nat.sub_self, List.replicate_zero, List.replicate_succ, Nat.reduceLeDiff, if_true, if_false, Bool.false_eq_true, Bool.not_true, Bool.not_false, decide_eq_true_eq, l1, h40', decide_false, hn]
theorem int_dig {w : List Nat} (h : Dig w) : gIntA [.str (S w)] = some (.int ((NumText.digitsVal w : Nat) : Int)) := by
  obtain ⟨h1, h2, h3⟩ := h
  have e : intText? (S w) = some ((NumText.digitsVal w : Nat) : Int) := intText_digits (x := S w) h3 h1 (by rw [S_len]; omega)
  rw [gIntA_str, if_pos (by rw [S_len]; omega), e]
  rfl
theorem int_neg {w : List Nat} (h : Dig w) : gIntA [.str (S (45 :: w))] = some (.int (-((NumText.digitsVal w : Nat) : Int))) := by
  obtain ⟨h1, h2, h3⟩ := h
  have e : intText? (S (45 :: w)) = some (-((NumText.digitsVal w : Nat) : Int)) := intText_neg (x := S (45 :: w)) rfl h3 h1 (by rw [S_len]; simp; omega)
  rw [gIntA_str, if_pos (by rw [S_len]; simp; omega), e]
  rfl
/-- without one - ahead -/
def noDash : List Nat → List Nat
  | 45 :: r => r
  | l => l
theorem rem_dash (l : List Nat) : Txt.removeprefix (S l) (S [45]) = S (noDash l) := by
  rw [PySem.StrLaws.removeprefix_eq, PySem.StrLaws.subAt_eq]
  cases l with
  | nil => rfl
  | cons c r =>
    by_cases h : c = 45
    · subst h
      simp [S, Str.length, noDash]
    · have hb : (c == 45) = false := by simpa using h
      have e : noDash (c :: r) = c :: r := by
        unfold noDash
        split
        · rename_i h2
          injection h2 with h3 _
          exact absurd h3 h
        · rfl
      rw [e]
      simp [S, Str.length, h]
/-! the law's reader of digits -/
theorem dig_loop : ∀ (w : List Nat) (a b : Option Lo), ∃ b', forD (uName 1) (sIf (t2 (eVar 1) (eC (.str "0123456789")) (neg2 inS)) (sRet (e1 (eC (.int 1)) gNeg)) sNext) (w.map fun c => .str ⟨#[c]⟩) [a, b] =
    if (∀ c ∈ w, 48 ≤ c ∧ c ≤ 57) then .ok .nx [a, b'] else .ok (.rt (.int (-1))) [a, b']
  | [], a, b => ⟨b, by rw [if_pos (by simp)]; rfl⟩
  | c :: w, a, b => by
    obtain ⟨b', e⟩ := dig_loop w a (some (.sh (.str ⟨#[c]⟩)))
    have hin : inS (.str ⟨#[c]⟩) (.str "0123456789") = some (decide (48 ≤ c ∧ c ≤ 57)) := by
      show some (decide (c ∈ (Str.ofString "0123456789").cps.toList)) = _
      have e : (Str.ofString "0123456789").cps.toList = [48, 49, 50, 51, 52, 53, 54, 55, 56, 57] := by decide
      rw [e]
      congr 1
      rw [decide_eq_decide]
      simp only [List.mem_cons, List.not_mem_nil, or_false]
      omega
    by_cases hc : 48 ≤ c ∧ c ≤ 57
    · refine ⟨b', ?_⟩
      have e1 : (∀ d ∈ c :: w, 48 ≤ d ∧ d ≤ 57) ↔ (∀ d ∈ w, 48 ≤ d ∧ d ≤ 57) := by
        simp only [List.forall_mem_cons, hc, true_and]
      rw [List.map_cons]
      simp only [e1]
      simp only [FD.sSeq_ap, FD.sNext_ap, FD.sBrk_ap, FD.sCont_ap, FD.sIf_ap, FD.sSet_ap, FD.sSetL_ap, FD.sDrop_ap, FD.sRet_ap, FD.sRetN_ap, FD.sFor_ap, FD.sAsg_ap, FD.sRaise_ap, FD.sAppend_ap, FD.sSetIx_ap, FD.eC_ap, FD.eVar_0, FD.eVar_s, FD.e1_ap, FD.e2_ap, FD.t1_ap, FD.t2_ap, FD.eT_ap, FD.tAnd_ap, FD.tOr_ap, FD.tNot_ap, FD.eIf_ap, FD.aNil_ap, FD.aCons_ap, FD.eTup_ap, FD.lLst_ap, FD.eL_ap, FD.eB_ap, FD.eCallR_ap, FD.eAnd_ap, FD.eOr_ap, FD.eNot_ap, FD.eChain_ap, FD.oSeq_ap, FD.oRange_ap, FD.oNone_ap, FD.oInt_ap, FD.lCut_ap, FD.gCutL_lst, FD.gCutL_fls, FD.frzD_int, FD.frzD_bl, FD.frzD_str, FD.frzD_non, FD.frzD_nil, FD.frzD_lst, FD.frzD_fls, FD.outS_nx, FD.outS_rt, FD.outS_exc, FD.runD_eq, FD.Out.bind_ok, FD.Out.bind_exc, FD.Out.bind_bad, FD.stE_ok, FD.stE_exc, FD.stE_bad, FD.andThen_nx, FD.andThen_bk, FD.andThen_ct, FD.andThen_rt, FD.andThen_exc, FD.andThen_bad, FD.ofO_some, FD.ofO_none, FD.Lo.d_sh, FD.Lo.d_ol, FD.Lo.d_od, FD.frz_nil, FD.frz_cons, FD.frz1_0, FD.frz1_n, FD.frz1_s, FD.uName_ap, FD.uTup_ap, FD.uCons_ap, FD.uNil_ap, FD.turn_nx, FD.turn_ct, FD.turn_bk, FD.turn_rt, FD.turn_exc, FD.forD_nil, FD.forD_n, FD.atI_0, FD.atI_1, FD.atI_2, FD.atI_3, FD.unset_rt, FD.unset_nx, FD.unset_bk, FD.unset_ct, Option.bind_some, Option.map_some, FD.gI_int, FD.gI0_int, FD.cI_int, FD.gAdd_int, FD.gNeg_int, FD.eqD_int, FD.eqD_str, FD.eqD_bl, FD.eqD_non, FD.neg2_eq, FD.blD_bl, FD.truD_non, FD.truD_bl, FD.truD_int, FD.truD_tup, FD.truD_lst, FD.truD_fls, FD.truD_dic, FD.Dt.seq_tup, FD.Dt.seq_lst, FD.Dt.seq_fls, FD.gLen_tup, FD.gLen_lst, FD.gLen_fls, FD.gInt_int, FD.gInt_bl, FD.gAbs_int, FD.gGcd_int, FD.gIntA_int, FD.gIntA_bl, FD.gIx_tup, FD.gIx_lst, FD.gIx_fls, FD.isi_int_int, FD.isi_int_bool, FD.isi_bool_int, FD.isi_bool_bool, FD.isi_tup, FD.isi_lst, List.map_cons, List.map_nil, List.length_cons, List.length_nil, List.cons_append, List.nil_append, List.set_cons_zero, List.set_cons_succ, List.getElem?_cons_zero, List.getElem?_cons_succ, Nat.reduceAdd, Nat.reduceSub, Nat.zero_add, Nat.sub_self, List.replicate_zero, List.replicate_succ, Nat.reduceLeDiff, if_true, if_false, Bool.false_eq_true, Bool.not_true, Bool.not_false, decide_eq_true_eq, hin, hc, decide_true]
      exact e
    · refine ⟨some (.sh (.str ⟨#[c]⟩)), ?_⟩
      have e1 : ¬ (∀ d ∈ c :: w, 48 ≤ d ∧ d ≤ 57) := fun z => hc (z c List.mem_cons_self)
      rw [List.map_cons, if_neg e1]
      simp only [FD.sSeq_ap, FD.sNext_ap, FD.sBrk_ap, FD.sCont_ap, FD.sIf_ap, FD.sSet_ap, FD.sSetL_ap, FD.sDrop_ap, FD.sRet_ap, FD.sRetN_ap, FD.sFor_ap, FD.sAsg_ap, FD.sRaise_ap, FD.sAppend_ap, FD.sSetIx_ap, FD.eC_ap, FD.eVar_0, FD.eVar_s, FD.e1_ap, FD.e2_ap, FD.t1_ap, FD.t2_ap, FD.eT_ap, FD.tAnd_ap, FD.tOr_ap, FD.tNot_ap, FD.eIf_ap, FD.aNil_ap, FD.aCons_ap, FD.eTup_ap, FD.lLst_ap, FD.eL_ap, FD.eB_ap, FD.eCallR_ap, FD.eAnd_ap, FD.eOr_ap, FD.eNot_ap, FD.eChain_ap, FD.oSeq_ap, FD.oRange_ap, FD.oNone_ap, FD.oInt_ap, FD.lCut_ap, FD.gCutL_lst, FD.gCutL_fls, FD.frzD_int, FD.frzD_bl, FD.frzD_str, FD.frzD_non, FD.frzD_nil, FD.frzD_lst, FD.frzD_fls, FD.outS_nx, FD.outS_rt, FD.outS_exc, FD.runD_eq, FD.Out.bind_ok, FD.Out.bind_exc, FD.Out.bind_bad, FD.stE_ok, FD.stE_exc, FD.stE_bad, FD.andThen_nx, FD.andThen_bk, FD.andThen_ct, FD.andThen_rt, FD.andThen_exc, FD.andThen_bad, FD.ofO_some, FD.ofO_none, FD.Lo.d_sh, FD.Lo.d_ol, FD.Lo.d_od, FD.frz_nil, FD.frz_cons, FD.frz1_0, FD.frz1_n, FD.frz1_s, FD.uName_ap, FD.uTup_ap, FD.uCons_ap, FD.uNil_ap, FD.turn_nx, FD.turn_ct, FD.turn_bk, FD.turn_rt, FD.turn_exc, FD.forD_nil, FD.forD_n, FD.atI_0, FD.atI_1, FD.atI_2, FD.atI_3, FD.unset_rt, FD.unset_nx, FD.unset_bk, FD.unset_ct, Option.bind_some, Option.map_some, FD.gI_int, FD.gI0_int, FD.cI_int, FD.gAdd_int, FD.gNeg_int, FD.eqD_int, FD.eqD_str, FD.eqD_bl, FD.eqD_non, FD.neg2_eq, FD.blD_bl, FD.truD_non, FD.truD_bl, FD.truD_int, FD.truD_tup, FD.truD_lst, FD.truD_fls, FD.truD_dic, FD.Dt.seq_tup, FD.Dt.seq_lst, FD.Dt.seq_fls, FD.gLen_tup, FD.gLen_lst, FD.gLen_fls, FD.gInt_int, FD.gInt_bl, FD.gAbs_int, FD.gGcd_int, FD.gIntA_int, FD.gIntA_bl, FD.gIx_tup, FD.gIx_lst, FD.gIx_fls, FD.isi_int_int, FD.isi_int_bool, FD.isi_bool_int, FD.isi_bool_bool, FD.isi_tup, FD.isi_lst, List.map_cons, List.map_nil, List.length_cons, List.length_nil, List.cons_append, List.nil_append, List.set_cons_zero, List.set_cons_succ, List.getElem?_cons_zero, List.getElem?_cons_succ, Nat.reduceAdd, Nat.reduceSub, Nat.zero_add, Nat.sub_self, List.replicate_zero, List.replicate_succ, Nat.reduceLeDiff, if_true, if_false, Bool.false_eq_true, Bool.not_true, Bool.not_false, decide_eq_true_eq, hin, hc, decide_false]
end Lk01

set_option exponentiation.threshold 4000
namespace Lk01
open PySem L2 FD
variable {K : PySem.W.Frag} {cs : Cs}
theorem eCut_ap {f : FD.Env → Out Dt} {fl fh : FD.Env → Out (Option Int)} {ρ : FD.Env} : eCut f fl fh ρ = (f ρ).bind fun a => (fl ρ).bind fun lo => (fh ρ).bind fun hi => ofO (gCutA a lo hi) := rfl
theorem gCutA_lst {ds : List Dt} {lo hi : Option Int} : gCutA (.lst ds) lo hi = some (.lst (cutD ds lo hi)) := rfl
theorem gCutA_fls {ds : List Dt} {lo hi : Option Int} : gCutA (.fls ds) lo hi = some (.lst (cutD ds lo hi)) := rfl
/-! ### cells -/
theorem cell_loop {k d4 : Option Lo} : ∀ (cs' : List Int) (sc x : Option Lo) (s : Int), 0 ≤ s → s < 2147483647 → ∃ (s' : Int) (x' : Option Lo), 0 ≤ s' ∧ s' < 2147483647 ∧
    forD (uName 3) (sSet 2 (e2 (eB gIntA (aCons (e2 (e2 (e2 (eVar 2) (eC (.int 48271)) (gI mulB (· * ·))) (eB gIntA (aCons (eVar 3) aNil)) gAdd) (eC (.int 1)) gAdd) aNil)) (eC (.int 2147483647)) (gI nzB Int.fmod)) []) (cs'.map .int) [sc, k, some (.sh (.int s)), x, d4] = .ok .nx [sc, k, some (.sh (.int s')), x', d4]
  | [], sc, x, s, h0, h1 => ⟨s, x, h0, h1, rfl⟩
  | c :: r, sc, x, s, h0, h1 => by
    have hs : Bd 31 s := by unfold Bd; omega
    have hm : mulB s 48271 = true := mulB_of hs (show Bd 16 48271 by unfold Bd; decide) (by decide)
    have hz : (2147483647 : Int) ≠ 0 := by decide
    obtain ⟨s', x', a0, a1, e⟩ := cell_loop r sc (some (.sh (.int c))) ((s * 48271 + c + 1).fmod 2147483647) (Int.fmod_nonneg_of_pos _ (by decide)) (Int.fmod_lt_of_pos _ (by decide))
    refine ⟨s', x', a0, a1, ?_⟩
    rw [List.map_cons]
    simp only [FD.sSeq_ap, FD.sNext_ap, FD.sBrk_ap, FD.sCont_ap, FD.sIf_ap, FD.sSet_ap, FD.sSetL_ap, FD.sDrop_ap, FD.sRet_ap, FD.sRetN_ap, FD.sFor_ap, FD.sAsg_ap, FD.sRaise_ap, FD.sAppend_ap, FD.sSetIx_ap, FD.eC_ap, FD.eVar_0, FD.eVar_s, FD.e1_ap, FD.e2_ap, FD.t1_ap, FD.t2_ap, FD.eT_ap, FD.tAnd_ap, FD.tOr_ap, FD.tNot_ap, FD.eIf_ap, FD.aNil_ap, FD.aCons_ap, FD.eTup_ap, FD.lLst_ap, FD.eL_ap, FD.eB_ap, FD.eCallR_ap, FD.eAnd_ap, FD.eOr_ap, FD.eNot_ap, FD.eChain_ap, FD.oSeq_ap, FD.oRange_ap, FD.oNone_ap, FD.oInt_ap, FD.lCut_ap, FD.gCutL_lst, FD.gCutL_fls, FD.frzD_int, FD.frzD_bl, FD.frzD_str, FD.frzD_non, FD.frzD_nil, FD.frzD_lst, FD.frzD_fls, FD.outS_nx, FD.outS_rt, FD.outS_exc, FD.runD_eq, FD.Out.bind_ok, FD.Out.bind_exc, FD.Out.bind_bad, FD.stE_ok, FD.stE_exc, FD.stE_bad, FD.andThen_nx, FD.andThen_bk, FD.andThen_ct, FD.andThen_rt, FD.andThen_exc, FD.andThen_bad, FD.ofO_some, FD.ofO_none, FD.Lo.d_sh, FD.Lo.d_ol, FD.Lo.d_od, FD.frz_nil, FD.frz_cons, FD.frz1_0, FD.frz1_n, FD.frz1_s, FD.uName_ap, FD.uTup_ap, FD.uCons_ap, FD.uNil_ap, FD.turn_nx, FD.turn_ct, FD.turn_bk, FD.turn_rt, FD.turn_exc, FD.forD_nil, FD.forD_n, FD.atI_0, FD.atI_1, FD.atI_2, FD.atI_3, FD.unset_rt, FD.unset_nx, FD.unset_bk, FD.unset_ct, Option.bind_some, Option.map_some, FD.gI_int, FD.gI0_int, FD.cI_int, FD.gAdd_int, FD.gNeg_int, FD.eqD_int, FD.eqD_str, FD.eqD_bl, FD.eqD_non, FD.neg2_eq, FD.blD_bl, FD.truD_non, FD.truD_bl, FD.truD_int, FD.truD_tup, FD.truD_lst, FD.truD_fls, FD.truD_dic, FD.Dt.seq_tup, FD.Dt.seq_lst, FD.Dt.seq_fls, FD.gLen_tup, FD.gLen_lst, FD.gLen_fls, FD.gInt_int, FD.gInt_bl, FD.gAbs_int, FD.gGcd_int, FD.gIntA_int, FD.gIntA_bl, FD.gIx_tup, FD.gIx_lst, FD.gIx_fls, FD.isi_int_int, FD.isi_int_bool, FD.isi_bool_int, FD.isi_bool_bool, FD.isi_tup, FD.isi_lst, List.map_cons, List.map_nil, List.length_cons, List.length_nil, List.cons_append, List.nil_append, List.set_cons_zero, List.set_cons_succ, List.getElem?_cons_zero, List.getElem?_cons_succ, Nat.reduceAdd, Nat.reduceSub, Nat.zero_add, Nat.sub_self, List.replicate_zero, List.replicate_succ, Nat.reduceLeDiff, if_true, if_false, Bool.false_eq_true, Bool.not_true, Bool.not_false, decide_eq_true_eq, hm, nzB_of hz]
    exact e
theorem e_cell (ns : List Int) {k : Int} (h0 : 0 ≤ k) (h1 : k ≤ 1000) : ∃ z : Int, m__law_cell K cs [.fls (ns.map .int), .int k] = .ok (.int z) := by
  unfold m__law_cell argN b__law_cell
  by_cases hk : k < (ns.length : Int)
  · obtain ⟨z, hz, _⟩ := atI_in h0 hk
    refine ⟨z, ?_⟩
    simp only [FD.sSeq_ap, FD.sNext_ap, FD.sBrk_ap, FD.sCont_ap, FD.sIf_ap, FD.sSet_ap, FD.sSetL_ap, FD.sDrop_ap, FD.sRet_ap, FD.sRetN_ap, FD.sFor_ap, FD.sAsg_ap, FD.sRaise_ap, FD.sAppend_ap, FD.sSetIx_ap, FD.eC_ap, FD.eVar_0, FD.eVar_s, FD.e1_ap, FD.e2_ap, FD.t1_ap, FD.t2_ap, FD.eT_ap, FD.tAnd_ap, FD.tOr_ap, FD.tNot_ap, FD.eIf_ap, FD.aNil_ap, FD.aCons_ap, FD.eTup_ap, FD.lLst_ap, FD.eL_ap, FD.eB_ap, FD.eCallR_ap, FD.eAnd_ap, FD.eOr_ap, FD.eNot_ap, FD.eChain_ap, FD.oSeq_ap, FD.oRange_ap, FD.oNone_ap, FD.oInt_ap, FD.lCut_ap, FD.gCutL_lst, FD.gCutL_fls, FD.frzD_int, FD.frzD_bl, FD.frzD_str, FD.frzD_non, FD.frzD_nil, FD.frzD_lst, FD.frzD_fls, FD.outS_nx, FD.outS_rt, FD.outS_exc, FD.runD_eq, FD.Out.bind_ok, FD.Out.bind_exc, FD.Out.bind_bad, FD.stE_ok, FD.stE_exc, FD.stE_bad, FD.andThen_nx, FD.andThen_bk, FD.andThen_ct, FD.andThen_rt, FD.andThen_exc, FD.andThen_bad, FD.ofO_some, FD.ofO_none, FD.Lo.d_sh, FD.Lo.d_ol, FD.Lo.d_od, FD.frz_nil, FD.frz_cons, FD.frz1_0, FD.frz1_n, FD.frz1_s, FD.uName_ap, FD.uTup_ap, FD.uCons_ap, FD.uNil_ap, FD.turn_nx, FD.turn_ct, FD.turn_bk, FD.turn_rt, FD.turn_exc, FD.forD_nil, FD.forD_n, FD.atI_0, FD.atI_1, FD.atI_2, FD.atI_3, FD.unset_rt, FD.unset_nx, FD.unset_bk, FD.unset_ct, Option.bind_some, Option.map_some, FD.gI_int, FD.gI0_int, FD.cI_int, FD.gAdd_int, FD.gNeg_int, FD.eqD_int, FD.eqD_str, FD.eqD_bl, FD.eqD_non, FD.neg2_eq, FD.blD_bl, FD.truD_non, FD.truD_bl, FD.truD_int, FD.truD_tup, FD.truD_lst, FD.truD_fls, FD.truD_dic, FD.Dt.seq_tup, FD.Dt.seq_lst, FD.Dt.seq_fls, FD.gLen_tup, FD.gLen_lst, FD.gLen_fls, FD.gInt_int, FD.gInt_bl, FD.gAbs_int, FD.gGcd_int, FD.gIntA_int, FD.gIntA_bl, FD.gIx_tup, FD.gIx_lst, FD.gIx_fls, FD.isi_int_int, FD.isi_int_bool, FD.isi_bool_int, FD.isi_bool_bool, FD.isi_tup, FD.isi_lst, List.map_cons, List.map_nil, List.length_cons, List.length_nil, List.cons_append, List.nil_append, List.set_cons_zero, List.set_cons_succ, List.getElem?_cons_zero, List.getElem?_cons_succ, Nat.reduceAdd, Nat.reduceSub, Nat.zero_add, Nat.sub_self, List.replicate_zero, List.replicate_succ, Nat.reduceLeDiff, if_true, if_false, Bool.false_eq_true, Bool.not_true, Bool.not_false, decide_eq_true_eq, List.length_map, hk, atI_map, hz]
  · obtain ⟨ys, hy⟩ := cutD_map (.int : Int → Dt) ns none (some 8)
    obtain ⟨s', x', a0, a1, e⟩ := cell_loop (k := some (.sh (.int k))) (d4 := none) ys (some (.sh (.fls (ns.map .int)))) none 0 (by decide) (by decide)
    have hz : (2147483647 : Int) ≠ 0 := by decide
    have hz2 : (2147483629 : Int) ≠ 0 := by decide
    have m1 : mulB s' 69621 = true := mulB_of (m := 31) (n := 17) (by unfold Bd; omega) (by unfold Bd; decide) (by decide)
    have m2 : mulB (k + 1) 1103515245 = true := mulB_of (m := 31) (n := 31) (by unfold Bd; omega) (by unfold Bd; decide) (by decide)
    have m3 : ∀ o : Int, mulB (Int.fmod o 2147483647) (Int.fmod o 2147483647) = true := fun o => by
      have a := Int.fmod_nonneg_of_pos o (show (0 : Int) < 2147483647 by decide)
      have b := Int.fmod_lt_of_pos o (show (0 : Int) < 2147483647 by decide)
      exact mulB_of (m := 31) (n := 31) (by unfold Bd; omega) (by unfold Bd; omega) (by decide)
    refine ⟨?z, ?h⟩
    case h =>
      simp only [FD.sSeq_ap, FD.sNext_ap, FD.sBrk_ap, FD.sCont_ap, FD.sIf_ap, FD.sSet_ap, FD.sSetL_ap, FD.sDrop_ap, FD.sRet_ap, FD.sRetN_ap, FD.sFor_ap, FD.sAsg_ap, FD.sRaise_ap, FD.sAppend_ap, FD.sSetIx_ap, FD.eC_ap, FD.eVar_0, FD.eVar_s, FD.e1_ap, FD.e2_ap, FD.t1_ap, FD.t2_ap, FD.eT_ap, FD.tAnd_ap, FD.tOr_ap, FD.tNot_ap, FD.eIf_ap, FD.aNil_ap, FD.aCons_ap, FD.eTup_ap, FD.lLst_ap, FD.eL_ap, FD.eB_ap, FD.eCallR_ap, FD.eAnd_ap, FD.eOr_ap, FD.eNot_ap, FD.eChain_ap, FD.oSeq_ap, FD.oRange_ap, FD.oNone_ap, FD.oInt_ap, FD.lCut_ap, FD.gCutL_lst, FD.gCutL_fls, FD.frzD_int, FD.frzD_bl, FD.frzD_str, FD.frzD_non, FD.frzD_nil, FD.frzD_lst, FD.frzD_fls, FD.outS_nx, FD.outS_rt, FD.outS_exc, FD.runD_eq, FD.Out.bind_ok, FD.Out.bind_exc, FD.Out.bind_bad, FD.stE_ok, FD.stE_exc, FD.stE_bad, FD.andThen_nx, FD.andThen_bk, FD.andThen_ct, FD.andThen_rt, FD.andThen_exc, FD.andThen_bad, FD.ofO_some, FD.ofO_none, FD.Lo.d_sh, FD.Lo.d_ol, FD.Lo.d_od, FD.frz_nil, FD.frz_cons, FD.frz1_0, FD.frz1_n, FD.frz1_s, FD.uName_ap, FD.uTup_ap, FD.uCons_ap, FD.uNil_ap, FD.turn_nx, FD.turn_ct, FD.turn_bk, FD.turn_rt, FD.turn_exc, FD.forD_nil, FD.forD_n, FD.atI_0, FD.atI_1, FD.atI_2, FD.atI_3, FD.unset_rt, FD.unset_nx, FD.unset_bk, FD.unset_ct, Option.bind_some, Option.map_some, FD.gI_int, FD.gI0_int, FD.cI_int, FD.gAdd_int, FD.gNeg_int, FD.eqD_int, FD.eqD_str, FD.eqD_bl, FD.eqD_non, FD.neg2_eq, FD.blD_bl, FD.truD_non, FD.truD_bl, FD.truD_int, FD.truD_tup, FD.truD_lst, FD.truD_fls, FD.truD_dic, FD.Dt.seq_tup, FD.Dt.seq_lst, FD.Dt.seq_fls, FD.gLen_tup, FD.gLen_lst, FD.gLen_fls, FD.gInt_int, FD.gInt_bl, FD.gAbs_int, FD.gGcd_int, FD.gIntA_int, FD.gIntA_bl, FD.gIx_tup, FD.gIx_lst, FD.gIx_fls, FD.isi_int_int, FD.isi_int_bool, FD.isi_bool_int, FD.isi_bool_bool, FD.isi_tup, FD.isi_lst, List.map_cons, List.map_nil, List.length_cons, List.length_nil, List.cons_append, List.nil_append, List.set_cons_zero, List.set_cons_succ, List.getElem?_cons_zero, List.getElem?_cons_succ, Nat.reduceAdd, Nat.reduceSub, Nat.zero_add, Nat.sub_self, List.replicate_zero, List.replicate_succ, Nat.reduceLeDiff, if_true, if_false, Bool.false_eq_true, Bool.not_true, Bool.not_false, decide_eq_true_eq, eCut_ap, gCutA_fls, List.length_map, hk, hy, e, nzB_of hz, nzB_of hz2, m1, m2, m3]
      rfl
/-! ### the greatest common divisor -/
theorem shared_loop : ∀ (h : Nat) (ds : List Dt) (a b : Nat) (t r : Option Lo), b < 2 ^ h → 2 * h + 1 ≤ ds.length → ∃ ρ, forD (uName 2) (sSeq (sIf (t2 (eVar 1) (eC (.int 0)) eqD) (sRet (eVar 0)) sNext)
    (sSeq (sSet 3 (e2 (eB gIntA (aCons (eVar 0) aNil)) (eVar 1) (gI nzB Int.fmod)) []) (sSeq (sSet 0 (eVar 1) [1]) (sSet 1 (eVar 3) [3])))) ds [some (.sh (.int a)), some (.sh (.int b)), t, r] = .ok (.rt (.int (Nat.gcd a b))) ρ
  | _, [], _, _, _, _, _, h => by simp at h
  | h, d :: ds, a, b, t, r, hb, hd => by
    by_cases h0 : b = 0
    · subst h0
      refine ⟨?z, ?h⟩
      case h =>
        simp only [FD.sSeq_ap, FD.sNext_ap, FD.sBrk_ap, FD.sCont_ap, FD.sIf_ap, FD.sSet_ap, FD.sSetL_ap, FD.sDrop_ap, FD.sRet_ap, FD.sRetN_ap, FD.sFor_ap, FD.sAsg_ap, FD.sRaise_ap, FD.sAppend_ap, FD.sSetIx_ap, FD.eC_ap, FD.eVar_0, FD.eVar_s, FD.e1_ap, FD.e2_ap, FD.t1_ap, FD.t2_ap, FD.eT_ap, FD.tAnd_ap, FD.tOr_ap, FD.tNot_ap, FD.eIf_ap, FD.aNil_ap, FD.aCons_ap, FD.eTup_ap, FD.lLst_ap, FD.eL_ap, FD.eB_ap, FD.eCallR_ap, FD.eAnd_ap, FD.eOr_ap, FD.eNot_ap, FD.eChain_ap, FD.oSeq_ap, FD.oRange_ap, FD.oNone_ap, FD.oInt_ap, FD.lCut_ap, FD.gCutL_lst, FD.gCutL_fls, FD.frzD_int, FD.frzD_bl, FD.frzD_str, FD.frzD_non, FD.frzD_nil, FD.frzD_lst, FD.frzD_fls, FD.outS_nx, FD.outS_rt, FD.outS_exc, FD.runD_eq, FD.Out.bind_ok, FD.Out.bind_exc, FD.Out.bind_bad, FD.stE_ok, FD.stE_exc, FD.stE_bad, FD.andThen_nx, FD.andThen_bk, FD.andThen_ct, FD.andThen_rt, FD.andThen_exc, FD.andThen_bad, FD.ofO_some, FD.ofO_none, FD.Lo.d_sh, FD.Lo.d_ol, FD.Lo.d_od, FD.frz_nil, FD.frz_cons, FD.frz1_0, FD.frz1_n, FD.frz1_s, FD.uName_ap, FD.uTup_ap, FD.uCons_ap, FD.uNil_ap, FD.turn_nx, FD.turn_ct, FD.turn_bk, FD.turn_rt, FD.turn_exc, FD.forD_nil, FD.forD_n, FD.atI_0, FD.atI_1, FD.atI_2, FD.atI_3, FD.unset_rt, FD.unset_nx, FD.unset_bk, FD.unset_ct, Option.bind_some, Option.map_some, FD.gI_int, FD.gI0_int, FD.cI_int, FD.gAdd_int, FD.gNeg_int, FD.eqD_int, FD.eqD_str, FD.eqD_bl, FD.eqD_non, FD.neg2_eq, FD.blD_bl, FD.truD_non, FD.truD_bl, FD.truD_int, FD.truD_tup, FD.truD_lst, FD.truD_fls, FD.truD_dic, FD.Dt.seq_tup, FD.Dt.seq_lst, FD.Dt.seq_fls, FD.gLen_tup, FD.gLen_lst, FD.gLen_fls, FD.gInt_int, FD.gInt_bl, FD.gAbs_int, FD.gGcd_int, FD.gIntA_int, FD.gIntA_bl, FD.gIx_tup, FD.gIx_lst, FD.gIx_fls, FD.isi_int_int, FD.isi_int_bool, FD.isi_bool_int, FD.isi_bool_bool, FD.isi_tup, FD.isi_lst, List.map_cons, List.map_nil, List.length_cons, List.length_nil, List.cons_append, List.nil_append, List.set_cons_zero, List.set_cons_succ, List.getElem?_cons_zero, List.getElem?_cons_succ, Nat.reduceAdd, Nat.reduceSub, Nat.zero_add, Nat.sub_self, List.replicate_zero, List.replicate_succ, Nat.reduceLeDiff, if_true, if_false, Bool.false_eq_true, Bool.not_true, Bool.not_false, decide_eq_true_eq, Nat.gcd_zero_right, show (((0 : Nat) : Int) == 0) = true from rfl]
        rfl
    · have hb0 : (((b : Nat) : Int) == 0) = false := by
        have : ((b : Nat) : Int) ≠ 0 := by omega
        simpa using this
      have hbz : ((b : Nat) : Int) ≠ 0 := by omega
      have e1 : Int.fmod ((a : Nat) : Int) ((b : Nat) : Int) = ((a % b : Nat) : Int) := by rw [Int.fmod_eq_emod_of_nonneg _ (by omega)]; rfl
      match h, ds, hb, hd with
      | 0, _, hb, _ => omega
      | h + 1, [], hb, hd => simp at hd
      | h + 1, d2 :: ds, hb, hd =>
        by_cases h1 : a % b = 0
        · have h1' : (((a % b : Nat) : Int) == 0) = true := by rw [h1]; rfl
          have hg : Nat.gcd a b = b := by rw [Nat.gcd_comm, Nat.gcd_rec, h1, Nat.gcd_zero_left]
          refine ⟨[some (.sh (.int b)), some (.sh (.int ((a % b : Nat) : Int))), some (.sh d2), some (.sh (.int ((a % b : Nat) : Int)))], ?_⟩
          simp only [FD.sSeq_ap, FD.sNext_ap, FD.sBrk_ap, FD.sCont_ap, FD.sIf_ap, FD.sSet_ap, FD.sSetL_ap, FD.sDrop_ap, FD.sRet_ap, FD.sRetN_ap, FD.sFor_ap, FD.sAsg_ap, FD.sRaise_ap, FD.sAppend_ap, FD.sSetIx_ap, FD.eC_ap, FD.eVar_0, FD.eVar_s, FD.e1_ap, FD.e2_ap, FD.t1_ap, FD.t2_ap, FD.eT_ap, FD.tAnd_ap, FD.tOr_ap, FD.tNot_ap, FD.eIf_ap, FD.aNil_ap, FD.aCons_ap, FD.eTup_ap, FD.lLst_ap, FD.eL_ap, FD.eB_ap, FD.eCallR_ap, FD.eAnd_ap, FD.eOr_ap, FD.eNot_ap, FD.eChain_ap, FD.oSeq_ap, FD.oRange_ap, FD.oNone_ap, FD.oInt_ap, FD.lCut_ap, FD.gCutL_lst, FD.gCutL_fls, FD.frzD_int, FD.frzD_bl, FD.frzD_str, FD.frzD_non, FD.frzD_nil, FD.frzD_lst, FD.frzD_fls, FD.outS_nx, FD.outS_rt, FD.outS_exc, FD.runD_eq, FD.Out.bind_ok, FD.Out.bind_exc, FD.Out.bind_bad, FD.stE_ok, FD.stE_exc, FD.stE_bad, FD.andThen_nx, FD.andThen_bk, FD.andThen_ct, FD.andThen_rt, FD.andThen_exc, FD.andThen_bad, FD.ofO_some, FD.ofO_none, FD.Lo.d_sh, FD.Lo.d_ol, FD.Lo.d_od, FD.frz_nil, FD.frz_cons, FD.frz1_0, FD.frz1_n, FD.frz1_s, FD.uName_ap, FD.uTup_ap, FD.uCons_ap, FD.uNil_ap, FD.turn_nx, FD.turn_ct, FD.turn_bk, FD.turn_rt, FD.turn_exc, FD.forD_nil, FD.forD_n, FD.atI_0, FD.atI_1, FD.atI_2, FD.atI_3, FD.unset_rt, FD.unset_nx, FD.unset_bk, FD.unset_ct, Option.bind_some, Option.map_some, FD.gI_int, FD.gI0_int, FD.cI_int, FD.gAdd_int, FD.gNeg_int, FD.eqD_int, FD.eqD_str, FD.eqD_bl, FD.eqD_non, FD.neg2_eq, FD.blD_bl, FD.truD_non, FD.truD_bl, FD.truD_int, FD.truD_tup, FD.truD_lst, FD.truD_fls, FD.truD_dic, FD.Dt.seq_tup, FD.Dt.seq_lst, FD.Dt.seq_fls, FD.gLen_tup, FD.gLen_lst, FD.gLen_fls, FD.gInt_int, FD.gInt_bl, FD.gAbs_int, FD.gGcd_int, FD.gIntA_int, FD.gIntA_bl, FD.gIx_tup, FD.gIx_lst, FD.gIx_fls, FD.isi_int_int, FD.isi_int_bool, FD.isi_bool_int, FD.isi_bool_bool, FD.isi_tup, FD.isi_lst, List.map_cons, List.map_nil, List.length_cons, List.length_nil, List.cons_append, List.nil_append, List.set_cons_zero, List.set_cons_succ, List.getElem?_cons_zero, List.getElem?_cons_succ, Nat.reduceAdd, Nat.reduceSub, Nat.zero_add, Nat.sub_self, List.replicate_zero, List.replicate_succ, Nat.reduceLeDiff, if_true, if_false, Bool.false_eq_true, Bool.not_true, Bool.not_false, decide_eq_true_eq, hb0, nzB_of hbz, e1, h1', hg]
        · have hr0 : (((a % b : Nat) : Int) == 0) = false := by
            have : ((a % b : Nat) : Int) ≠ 0 := by omega
            simpa using this
          have hrz : ((a % b : Nat) : Int) ≠ 0 := by omega
          have e2 : Int.fmod ((b : Nat) : Int) ((a % b : Nat) : Int) = ((b % (a % b) : Nat) : Int) := by rw [Int.fmod_eq_emod_of_nonneg _ (by omega)]; rfl
          have hlt : a % b < b := Nat.mod_lt _ (by omega)
          have hhalf : 2 * (b % (a % b)) < b := by
            have hm := Nat.mod_lt b (show 0 < a % b by omega)
            by_cases hq : 2 * (a % b) ≤ b
            · omega
            · have : b % (a % b) = b - a % b := by
                rw [Nat.mod_eq_sub_mod (by omega), Nat.mod_eq_of_lt (by omega)]
              omega
          obtain ⟨ρ, e⟩ := shared_loop h ds (a % b) (b % (a % b)) (some (.sh d2)) (some (.sh (.int ((b % (a % b) : Nat) : Int)))) (by rw [Nat.pow_succ] at hb; omega) (by simp only [List.length_cons] at hd; omega)
          refine ⟨ρ, ?_⟩
          simp only [FD.sSeq_ap, FD.sNext_ap, FD.sBrk_ap, FD.sCont_ap, FD.sIf_ap, FD.sSet_ap, FD.sSetL_ap, FD.sDrop_ap, FD.sRet_ap, FD.sRetN_ap, FD.sFor_ap, FD.sAsg_ap, FD.sRaise_ap, FD.sAppend_ap, FD.sSetIx_ap, FD.eC_ap, FD.eVar_0, FD.eVar_s, FD.e1_ap, FD.e2_ap, FD.t1_ap, FD.t2_ap, FD.eT_ap, FD.tAnd_ap, FD.tOr_ap, FD.tNot_ap, FD.eIf_ap, FD.aNil_ap, FD.aCons_ap, FD.eTup_ap, FD.lLst_ap, FD.eL_ap, FD.eB_ap, FD.eCallR_ap, FD.eAnd_ap, FD.eOr_ap, FD.eNot_ap, FD.eChain_ap, FD.oSeq_ap, FD.oRange_ap, FD.oNone_ap, FD.oInt_ap, FD.lCut_ap, FD.gCutL_lst, FD.gCutL_fls, FD.frzD_int, FD.frzD_bl, FD.frzD_str, FD.frzD_non, FD.frzD_nil, FD.frzD_lst, FD.frzD_fls, FD.outS_nx, FD.outS_rt, FD.outS_exc, FD.runD_eq, FD.Out.bind_ok, FD.Out.bind_exc, FD.Out.bind_bad, FD.stE_ok, FD.stE_exc, FD.stE_bad, FD.andThen_nx, FD.andThen_bk, FD.andThen_ct, FD.andThen_rt, FD.andThen_exc, FD.andThen_bad, FD.ofO_some, FD.ofO_none, FD.Lo.d_sh, FD.Lo.d_ol, FD.Lo.d_od, FD.frz_nil, FD.frz_cons, FD.frz1_0, FD.frz1_n, FD.frz1_s, FD.uName_ap, FD.uTup_ap, FD.uCons_ap, FD.uNil_ap, FD.turn_nx, FD.turn_ct, FD.turn_bk, FD.turn_rt, FD.turn_exc, FD.forD_nil, FD.forD_n, FD.atI_0, FD.atI_1, FD.atI_2, FD.atI_3, FD.unset_rt, FD.unset_nx, FD.unset_bk, FD.unset_ct, Option.bind_some, Option.map_some, FD.gI_int, FD.gI0_int, FD.cI_int, FD.gAdd_int, FD.gNeg_int, FD.eqD_int, FD.eqD_str, FD.eqD_bl, FD.eqD_non, FD.neg2_eq, FD.blD_bl, FD.truD_non, FD.truD_bl, FD.truD_int, FD.truD_tup, FD.truD_lst, FD.truD_fls, FD.truD_dic, FD.Dt.seq_tup, FD.Dt.seq_lst, FD.Dt.seq_fls, FD.gLen_tup, FD.gLen_lst, FD.gLen_fls, FD.gInt_int, FD.gInt_bl, FD.gAbs_int, FD.gGcd_int, FD.gIntA_int, FD.gIntA_bl, FD.gIx_tup, FD.gIx_lst, FD.gIx_fls, FD.isi_int_int, FD.isi_int_bool, FD.isi_bool_int, FD.isi_bool_bool, FD.isi_tup, FD.isi_lst, List.map_cons, List.map_nil, List.length_cons, List.length_nil, List.cons_append, List.nil_append, List.set_cons_zero, List.set_cons_succ, List.getElem?_cons_zero, List.getElem?_cons_succ, Nat.reduceAdd, Nat.reduceSub, Nat.zero_add, Nat.sub_self, List.replicate_zero, List.replicate_succ, Nat.reduceLeDiff, if_true, if_false, Bool.false_eq_true, Bool.not_true, Bool.not_false, decide_eq_true_eq, hb0, nzB_of hbz, e1, hr0, nzB_of hrz, e2]
          rw [e]
          have g1 : Nat.gcd a b = Nat.gcd (a % b) (b % (a % b)) := by
            rw [Nat.gcd_comm a b, Nat.gcd_rec b a, Nat.gcd_rec (a % b) b, Nat.gcd_comm]
          rw [g1]
theorem e_shared {a b : Int} (hb : Bd 290 b) : m__law_shared K cs [.int a, .int b] = .ok (.int ((Nat.gcd a.natAbs b.natAbs : Nat) : Int)) := by
  unfold m__law_shared argN b__law_shared
  have ea : ∀ i : Int, (if i < 0 then -i else i) = ((i.natAbs : Nat) : Int) := fun i => by split <;> omega
  obtain ⟨ρ, e⟩ := shared_loop 290 (rngD 0 600) a.natAbs b.natAbs none none hb (by rw [rngD_length]; decide)
  have sB : smallB 600 = true := by decide
  have hn : Int.toNat 600 = 600 := rfl
  simp only [FD.sSeq_ap, FD.sNext_ap, FD.sBrk_ap, FD.sCont_ap, FD.sIf_ap, FD.sSet_ap, FD.sSetL_ap, FD.sDrop_ap, FD.sRet_ap, FD.sRetN_ap, FD.sFor_ap, FD.sAsg_ap, FD.sRaise_ap, FD.sAppend_ap, FD.sSetIx_ap, FD.eC_ap, FD.eVar_0, FD.eVar_s, FD.e1_ap, FD.e2_ap, FD.t1_ap, FD.t2_ap, FD.eT_ap, FD.tAnd_ap, FD.tOr_ap, FD.tNot_ap, FD.eIf_ap, FD.aNil_ap, FD.aCons_ap, FD.eTup_ap, FD.lLst_ap, FD.eL_ap, FD.eB_ap, FD.eCallR_ap, FD.eAnd_ap, FD.eOr_ap, FD.eNot_ap, FD.eChain_ap, FD.oSeq_ap, FD.oRange_ap, FD.oNone_ap, FD.oInt_ap, FD.lCut_ap, FD.gCutL_lst, FD.gCutL_fls, FD.frzD_int, FD.frzD_bl, FD.frzD_str, FD.frzD_non, FD.frzD_nil, FD.frzD_lst, FD.frzD_fls, FD.outS_nx, FD.outS_rt, FD.outS_exc, FD.runD_eq, FD.Out.bind_ok, FD.Out.bind_exc, FD.Out.bind_bad, FD.stE_ok, FD.stE_exc, FD.stE_bad, FD.andThen_nx, FD.andThen_bk, FD.andThen_ct, FD.andThen_rt, FD.andThen_exc, FD.andThen_bad, FD.ofO_some, FD.ofO_none, FD.Lo.d_sh, FD.Lo.d_ol, FD.Lo.d_od, FD.frz_nil, FD.frz_cons, FD.frz1_0, FD.frz1_n, FD.frz1_s, FD.uName_ap, FD.uTup_ap, FD.uCons_ap, FD.uNil_ap, FD.turn_nx, FD.turn_ct, FD.turn_bk, FD.turn_rt, FD.turn_exc, FD.forD_nil, FD.forD_n, FD.atI_0, FD.atI_1, FD.atI_2, FD.atI_3, FD.unset_rt, FD.unset_nx, FD.unset_bk, FD.unset_ct, Option.bind_some, Option.map_some, FD.gI_int, FD.gI0_int, FD.cI_int, FD.gAdd_int, FD.gNeg_int, FD.eqD_int, FD.eqD_str, FD.eqD_bl, FD.eqD_non, FD.neg2_eq, FD.blD_bl, FD.truD_non, FD.truD_bl, FD.truD_int, FD.truD_tup, FD.truD_lst, FD.truD_fls, FD.truD_dic, FD.Dt.seq_tup, FD.Dt.seq_lst, FD.Dt.seq_fls, FD.gLen_tup, FD.gLen_lst, FD.gLen_fls, FD.gInt_int, FD.gInt_bl, FD.gAbs_int, FD.gGcd_int, FD.gIntA_int, FD.gIntA_bl, FD.gIx_tup, FD.gIx_lst, FD.gIx_fls, FD.isi_int_int, FD.isi_int_bool, FD.isi_bool_int, FD.isi_bool_bool, FD.isi_tup, FD.isi_lst, List.map_cons, List.map_nil, List.length_cons, List.length_nil, List.cons_append, List.nil_append, List.set_cons_zero, List.set_cons_succ, List.getElem?_cons_zero, List.getElem?_cons_succ, Nat.reduceAdd, Nat.reduceSub, Nat.zero_add, Nat.sub_self, List.replicate_zero, List.replicate_succ, Nat.reduceLeDiff, if_true, if_false, Bool.false_eq_true, Bool.not_true, Bool.not_false, decide_eq_true_eq, ea, oRng_1, sB, hn, e]
/-! ### fractions in lowest terms -/
def fr (q : Rat) : Dt := .tup [.int q.num, .int (q.den : Int)]
theorem ix0 (q : Rat) : gIx (fr q) (.int 0) = some (.int q.num) := rfl
theorem ix1 (q : Rat) : gIx (fr q) (.int 1) = some (.int q.den) := rfl
theorem len_fr (q : Rat) : gLen [fr q] = some (.int 2) := rfl
theorem isi_fr (q : Rat) : gIsi [fr q, .ty "tuple"] = some (.bl true) := isi_tup _
theorem frz_fr (q : Rat) (lk : List Nat) (ρ : FD.Env) : frzD (fr q) lk ρ = ρ := frzD_pure rfl
theorem fr_of {n d : Int} (hd : d ≠ 0) (g : Int) (hg : g = if d < 0 then -((Nat.gcd n.natAbs d.natAbs : Nat) : Int) else ((Nat.gcd n.natAbs d.natAbs : Nat) : Int)) : n.fdiv g = (Rat.divInt n d).num ∧ d.fdiv g = ((Rat.divInt n d).den : Int) := by
  have dn : ((Nat.gcd n.natAbs d.natAbs : Nat) : Int) ∣ n := Int.ofNat_dvd_left.mpr (Nat.gcd_dvd_left _ _)
  have dd : ((Nat.gcd n.natAbs d.natAbs : Nat) : Int) ∣ d := Int.ofNat_dvd_left.mpr (Nat.gcd_dvd_right _ _)
  have gp : 0 < Nat.gcd n.natAbs d.natAbs := Nat.gcd_pos_of_pos_right _ (by omega)
  have eg : d.gcd n = Nat.gcd n.natAbs d.natAbs := by rw [Int.gcd_comm]; rfl
  rw [Rat.num_divInt, Rat.den_divInt, if_neg hd, eg]
  by_cases h : d < 0
  · rw [if_pos h] at hg
    subst hg
    have n1 : n.fdiv (-((Nat.gcd n.natAbs d.natAbs : Nat) : Int)) = -(n / ((Nat.gcd n.natAbs d.natAbs : Nat) : Int)) := by
      rw [Int.fdiv_eq_ediv_of_dvd (Int.neg_dvd.mpr dn), Int.ediv_neg]
    have d1 : d.fdiv (-((Nat.gcd n.natAbs d.natAbs : Nat) : Int)) = -(d / ((Nat.gcd n.natAbs d.natAbs : Nat) : Int)) := by
      rw [Int.fdiv_eq_ediv_of_dvd (Int.neg_dvd.mpr dd), Int.ediv_neg]
    rw [n1, d1, Int.sign_eq_neg_one_of_neg h]
    constructor
    · rw [Int.neg_one_mul, Int.neg_ediv_of_dvd dn]
    · rw [Int.natCast_ediv, ← Int.neg_ediv_of_dvd dd]
      congr 1
      omega
  · rw [if_neg h] at hg
    subst hg
    rw [Int.fdiv_eq_ediv_of_dvd dn, Int.fdiv_eq_ediv_of_dvd dd, Int.sign_eq_one_of_pos (by omega), Int.one_mul]
    refine ⟨rfl, ?_⟩
    rw [Int.natCast_ediv]
    congr 1
    omega
theorem gcd_bd {n d : Int} {m : Nat} (hd : d ≠ 0) (h : Bd m d) : Bd m ((Nat.gcd n.natAbs d.natAbs : Nat) : Int) ∧ ((Nat.gcd n.natAbs d.natAbs : Nat) : Int) ≠ 0 := by
  have gp : 0 < Nat.gcd n.natAbs d.natAbs := Nat.gcd_pos_of_pos_right _ (by omega)
  have gl : Nat.gcd n.natAbs d.natAbs ≤ d.natAbs := Nat.le_of_dvd (by omega) (Nat.gcd_dvd_right _ _)
  exact ⟨h.le (by rw [Int.natAbs_natCast]; exact gl), by omega⟩
theorem e_exact {n d : Int} (hd : d ≠ 0) (hb : Bd 8000 d) : m_exact K cs [.int n, .int d] = .ok (fr (Rat.divInt n d)) := by
  unfold m_exact argD b_exact
  obtain ⟨gb, g0⟩ := gcd_bd (n := n) hd hb
  have hd0 : (d == 0) = false := by simpa using hd
  by_cases h : d < 0
  · obtain ⟨e1, e2⟩ := fr_of (n := n) hd _ (if_pos h).symm
    have q : ∀ i, divB i (-((Nat.gcd n.natAbs d.natAbs : Nat) : Int)) = true := fun i => divB_of (by omega) gb.neg (by decide)
    simp only [FD.sSeq_ap, FD.sNext_ap, FD.sBrk_ap, FD.sCont_ap, FD.sIf_ap, FD.sSet_ap, FD.sSetL_ap, FD.sDrop_ap, FD.sRet_ap, FD.sRetN_ap, FD.sFor_ap, FD.sAsg_ap, FD.sRaise_ap, FD.sAppend_ap, FD.sSetIx_ap, FD.eC_ap, FD.eVar_0, FD.eVar_s, FD.e1_ap, FD.e2_ap, FD.t1_ap, FD.t2_ap, FD.eT_ap, FD.tAnd_ap, FD.tOr_ap, FD.tNot_ap, FD.eIf_ap, FD.aNil_ap, FD.aCons_ap, FD.eTup_ap, FD.lLst_ap, FD.eL_ap, FD.eB_ap, FD.eCallR_ap, FD.eAnd_ap, FD.eOr_ap, FD.eNot_ap, FD.eChain_ap, FD.oSeq_ap, FD.oRange_ap, FD.oNone_ap, FD.oInt_ap, FD.lCut_ap, FD.gCutL_lst, FD.gCutL_fls, FD.frzD_int, FD.frzD_bl, FD.frzD_str, FD.frzD_non, FD.frzD_nil, FD.frzD_lst, FD.frzD_fls, FD.outS_nx, FD.outS_rt, FD.outS_exc, FD.runD_eq, FD.Out.bind_ok, FD.Out.bind_exc, FD.Out.bind_bad, FD.stE_ok, FD.stE_exc, FD.stE_bad, FD.andThen_nx, FD.andThen_bk, FD.andThen_ct, FD.andThen_rt, FD.andThen_exc, FD.andThen_bad, FD.ofO_some, FD.ofO_none, FD.Lo.d_sh, FD.Lo.d_ol, FD.Lo.d_od, FD.frz_nil, FD.frz_cons, FD.frz1_0, FD.frz1_n, FD.frz1_s, FD.uName_ap, FD.uTup_ap, FD.uCons_ap, FD.uNil_ap, FD.turn_nx, FD.turn_ct, FD.turn_bk, FD.turn_rt, FD.turn_exc, FD.forD_nil, FD.forD_n, FD.atI_0, FD.atI_1, FD.atI_2, FD.atI_3, FD.unset_rt, FD.unset_nx, FD.unset_bk, FD.unset_ct, Option.bind_some, Option.map_some, FD.gI_int, FD.gI0_int, FD.cI_int, FD.gAdd_int, FD.gNeg_int, FD.eqD_int, FD.eqD_str, FD.eqD_bl, FD.eqD_non, FD.neg2_eq, FD.blD_bl, FD.truD_non, FD.truD_bl, FD.truD_int, FD.truD_tup, FD.truD_lst, FD.truD_fls, FD.truD_dic, FD.Dt.seq_tup, FD.Dt.seq_lst, FD.Dt.seq_fls, FD.gLen_tup, FD.gLen_lst, FD.gLen_fls, FD.gInt_int, FD.gInt_bl, FD.gAbs_int, FD.gGcd_int, FD.gIntA_int, FD.gIntA_bl, FD.gIx_tup, FD.gIx_lst, FD.gIx_fls, FD.isi_int_int, FD.isi_int_bool, FD.isi_bool_int, FD.isi_bool_bool, FD.isi_tup, FD.isi_lst, List.map_cons, List.map_nil, List.length_cons, List.length_nil, List.cons_append, List.nil_append, List.set_cons_zero, List.set_cons_succ, List.getElem?_cons_zero, List.getElem?_cons_succ, Nat.reduceAdd, Nat.reduceSub, Nat.zero_add, Nat.sub_self, List.replicate_zero, List.replicate_succ, Nat.reduceLeDiff, if_true, if_false, Bool.false_eq_true, Bool.not_true, Bool.not_false, decide_eq_true_eq, hd0, h, q, e1, e2, List.drop_succ_cons, List.drop_nil, List.append_nil, Nat.le_refl, and_self]
    rfl
  · obtain ⟨e1, e2⟩ := fr_of (n := n) hd _ (if_neg h).symm
    have q : ∀ i, divB i ((Nat.gcd n.natAbs d.natAbs : Nat) : Int) = true := fun i => divB_of g0 gb (by decide)
    simp only [FD.sSeq_ap, FD.sNext_ap, FD.sBrk_ap, FD.sCont_ap, FD.sIf_ap, FD.sSet_ap, FD.sSetL_ap, FD.sDrop_ap, FD.sRet_ap, FD.sRetN_ap, FD.sFor_ap, FD.sAsg_ap, FD.sRaise_ap, FD.sAppend_ap, FD.sSetIx_ap, FD.eC_ap, FD.eVar_0, FD.eVar_s, FD.e1_ap, FD.e2_ap, FD.t1_ap, FD.t2_ap, FD.eT_ap, FD.tAnd_ap, FD.tOr_ap, FD.tNot_ap, FD.eIf_ap, FD.aNil_ap, FD.aCons_ap, FD.eTup_ap, FD.lLst_ap, FD.eL_ap, FD.eB_ap, FD.eCallR_ap, FD.eAnd_ap, FD.eOr_ap, FD.eNot_ap, FD.eChain_ap, FD.oSeq_ap, FD.oRange_ap, FD.oNone_ap, FD.oInt_ap, FD.lCut_ap, FD.gCutL_lst, FD.gCutL_fls, FD.frzD_int, FD.frzD_bl, FD.frzD_str, FD.frzD_non, FD.frzD_nil, FD.frzD_lst, FD.frzD_fls, FD.outS_nx, FD.outS_rt, FD.outS_exc, FD.runD_eq, FD.Out.bind_ok, FD.Out.bind_exc, FD.Out.bind_bad, FD.stE_ok, FD.stE_exc, FD.stE_bad, FD.andThen_nx, FD.andThen_bk, FD.andThen_ct, FD.andThen_rt, FD.andThen_exc, FD.andThen_bad, FD.ofO_some, FD.ofO_none, FD.Lo.d_sh, FD.Lo.d_ol, FD.Lo.d_od, FD.frz_nil, FD.frz_cons, FD.frz1_0, FD.frz1_n, FD.frz1_s, FD.uName_ap, FD.uTup_ap, FD.uCons_ap, FD.uNil_ap, FD.turn_nx, FD.turn_ct, FD.turn_bk, FD.turn_rt, FD.turn_exc, FD.forD_nil, FD.forD_n, FD.atI_0, FD.atI_1, FD.atI_2, FD.atI_3, FD.unset_rt, FD.unset_nx, FD.unset_bk, FD.unset_ct, Option.bind_some, Option.map_some, FD.gI_int, FD.gI0_int, FD.cI_int, FD.gAdd_int, FD.gNeg_int, FD.eqD_int, FD.eqD_str, FD.eqD_bl, FD.eqD_non, FD.neg2_eq, FD.blD_bl, FD.truD_non, FD.truD_bl, FD.truD_int, FD.truD_tup, FD.truD_lst, FD.truD_fls, FD.truD_dic, FD.Dt.seq_tup, FD.Dt.seq_lst, FD.Dt.seq_fls, FD.gLen_tup, FD.gLen_lst, FD.gLen_fls, FD.gInt_int, FD.gInt_bl, FD.gAbs_int, FD.gGcd_int, FD.gIntA_int, FD.gIntA_bl, FD.gIx_tup, FD.gIx_lst, FD.gIx_fls, FD.isi_int_int, FD.isi_int_bool, FD.isi_bool_int, FD.isi_bool_bool, FD.isi_tup, FD.isi_lst, List.map_cons, List.map_nil, List.length_cons, List.length_nil, List.cons_append, List.nil_append, List.set_cons_zero, List.set_cons_succ, List.getElem?_cons_zero, List.getElem?_cons_succ, Nat.reduceAdd, Nat.reduceSub, Nat.zero_add, Nat.sub_self, List.replicate_zero, List.replicate_succ, Nat.reduceLeDiff, if_true, if_false, Bool.false_eq_true, Bool.not_true, Bool.not_false, decide_eq_true_eq, hd0, h, q, e1, e2, List.drop_succ_cons, List.drop_nil, List.append_nil, Nat.le_refl, and_self]
    rfl
theorem e_exact1 {n : Int} : m_exact K cs [.int n] = .ok (fr (Rat.divInt n 1)) := by
  have h := e_exact (K := K) (cs := cs) (n := n) (d := 1) (by decide) (show Bd 8000 1 from (show Bd 1 1 by unfold Bd; decide).mono (by decide))
  have e : m_exact K cs [.int n] = m_exact K cs [.int n, .int 1] := rfl
  rw [e, h]
theorem e_exact0 {n : Int} : m_exact K cs [.int n, .int 0] = .exc ⟨cs.c_ZeroDenominator, []⟩ := by
  unfold m_exact argD b_exact
  simp only [FD.sSeq_ap, FD.sNext_ap, FD.sBrk_ap, FD.sCont_ap, FD.sIf_ap, FD.sSet_ap, FD.sSetL_ap, FD.sDrop_ap, FD.sRet_ap, FD.sRetN_ap, FD.sFor_ap, FD.sAsg_ap, FD.sRaise_ap, FD.sAppend_ap, FD.sSetIx_ap, FD.eC_ap, FD.eVar_0, FD.eVar_s, FD.e1_ap, FD.e2_ap, FD.t1_ap, FD.t2_ap, FD.eT_ap, FD.tAnd_ap, FD.tOr_ap, FD.tNot_ap, FD.eIf_ap, FD.aNil_ap, FD.aCons_ap, FD.eTup_ap, FD.lLst_ap, FD.eL_ap, FD.eB_ap, FD.eCallR_ap, FD.eAnd_ap, FD.eOr_ap, FD.eNot_ap, FD.eChain_ap, FD.oSeq_ap, FD.oRange_ap, FD.oNone_ap, FD.oInt_ap, FD.lCut_ap, FD.gCutL_lst, FD.gCutL_fls, FD.frzD_int, FD.frzD_bl, FD.frzD_str, FD.frzD_non, FD.frzD_nil, FD.frzD_lst, FD.frzD_fls, FD.outS_nx, FD.outS_rt, FD.outS_exc, FD.runD_eq, FD.Out.bind_ok, FD.Out.bind_exc, FD.Out.bind_bad, FD.stE_ok, FD.stE_exc, FD.stE_bad, FD.andThen_nx, FD.andThen_bk, FD.andThen_ct, FD.andThen_rt, FD.andThen_exc, FD.andThen_bad, FD.ofO_some, FD.ofO_none, FD.Lo.d_sh, FD.Lo.d_ol, FD.Lo.d_od, FD.frz_nil, FD.frz_cons, FD.frz1_0, FD.frz1_n, FD.frz1_s, FD.uName_ap, FD.uTup_ap, FD.uCons_ap, FD.uNil_ap, FD.turn_nx, FD.turn_ct, FD.turn_bk, FD.turn_rt, FD.turn_exc, FD.forD_nil, FD.forD_n, FD.atI_0, FD.atI_1, FD.atI_2, FD.atI_3, FD.unset_rt, FD.unset_nx, FD.unset_bk, FD.unset_ct, Option.bind_some, Option.map_some, FD.gI_int, FD.gI0_int, FD.cI_int, FD.gAdd_int, FD.gNeg_int, FD.eqD_int, FD.eqD_str, FD.eqD_bl, FD.eqD_non, FD.neg2_eq, FD.blD_bl, FD.truD_non, FD.truD_bl, FD.truD_int, FD.truD_tup, FD.truD_lst, FD.truD_fls, FD.truD_dic, FD.Dt.seq_tup, FD.Dt.seq_lst, FD.Dt.seq_fls, FD.gLen_tup, FD.gLen_lst, FD.gLen_fls, FD.gInt_int, FD.gInt_bl, FD.gAbs_int, FD.gGcd_int, FD.gIntA_int, FD.gIntA_bl, FD.gIx_tup, FD.gIx_lst, FD.gIx_fls, FD.isi_int_int, FD.isi_int_bool, FD.isi_bool_int, FD.isi_bool_bool, FD.isi_tup, FD.isi_lst, List.map_cons, List.map_nil, List.length_cons, List.length_nil, List.cons_append, List.nil_append, List.set_cons_zero, List.set_cons_succ, List.getElem?_cons_zero, List.getElem?_cons_succ, Nat.reduceAdd, Nat.reduceSub, Nat.zero_add, Nat.sub_self, List.replicate_zero, List.replicate_succ, Nat.reduceLeDiff, if_true, if_false, Bool.false_eq_true, Bool.not_true, Bool.not_false, decide_eq_true_eq, beq_self_eq_true, List.drop_succ_cons, List.drop_nil, List.append_nil, Nat.le_refl, and_self]
  rfl
theorem e_is_integer {i : Int} : m__law_is_integer K cs [.int i] = .ok (.bl true) := by
  unfold m__law_is_integer argN b__law_is_integer
  simp only [FD.sSeq_ap, FD.sNext_ap, FD.sBrk_ap, FD.sCont_ap, FD.sIf_ap, FD.sSet_ap, FD.sSetL_ap, FD.sDrop_ap, FD.sRet_ap, FD.sRetN_ap, FD.sFor_ap, FD.sAsg_ap, FD.sRaise_ap, FD.sAppend_ap, FD.sSetIx_ap, FD.eC_ap, FD.eVar_0, FD.eVar_s, FD.e1_ap, FD.e2_ap, FD.t1_ap, FD.t2_ap, FD.eT_ap, FD.tAnd_ap, FD.tOr_ap, FD.tNot_ap, FD.eIf_ap, FD.aNil_ap, FD.aCons_ap, FD.eTup_ap, FD.lLst_ap, FD.eL_ap, FD.eB_ap, FD.eCallR_ap, FD.eAnd_ap, FD.eOr_ap, FD.eNot_ap, FD.eChain_ap, FD.oSeq_ap, FD.oRange_ap, FD.oNone_ap, FD.oInt_ap, FD.lCut_ap, FD.gCutL_lst, FD.gCutL_fls, FD.frzD_int, FD.frzD_bl, FD.frzD_str, FD.frzD_non, FD.frzD_nil, FD.frzD_lst, FD.frzD_fls, FD.outS_nx, FD.outS_rt, FD.outS_exc, FD.runD_eq, FD.Out.bind_ok, FD.Out.bind_exc, FD.Out.bind_bad, FD.stE_ok, FD.stE_exc, FD.stE_bad, FD.andThen_nx, FD.andThen_bk, FD.andThen_ct, FD.andThen_rt, FD.andThen_exc, FD.andThen_bad, FD.ofO_some, FD.ofO_none, FD.Lo.d_sh, FD.Lo.d_ol, FD.Lo.d_od, FD.frz_nil, FD.frz_cons, FD.frz1_0, FD.frz1_n, FD.frz1_s, FD.uName_ap, FD.uTup_ap, FD.uCons_ap, FD.uNil_ap, FD.turn_nx, FD.turn_ct, FD.turn_bk, FD.turn_rt, FD.turn_exc, FD.forD_nil, FD.forD_n, FD.atI_0, FD.atI_1, FD.atI_2, FD.atI_3, FD.unset_rt, FD.unset_nx, FD.unset_bk, FD.unset_ct, Option.bind_some, Option.map_some, FD.gI_int, FD.gI0_int, FD.cI_int, FD.gAdd_int, FD.gNeg_int, FD.eqD_int, FD.eqD_str, FD.eqD_bl, FD.eqD_non, FD.neg2_eq, FD.blD_bl, FD.truD_non, FD.truD_bl, FD.truD_int, FD.truD_tup, FD.truD_lst, FD.truD_fls, FD.truD_dic, FD.Dt.seq_tup, FD.Dt.seq_lst, FD.Dt.seq_fls, FD.gLen_tup, FD.gLen_lst, FD.gLen_fls, FD.gInt_int, FD.gInt_bl, FD.gAbs_int, FD.gGcd_int, FD.gIntA_int, FD.gIntA_bl, FD.gIx_tup, FD.gIx_lst, FD.gIx_fls, FD.isi_int_int, FD.isi_int_bool, FD.isi_bool_int, FD.isi_bool_bool, FD.isi_tup, FD.isi_lst, List.map_cons, List.map_nil, List.length_cons, List.length_nil, List.cons_append, List.nil_append, List.set_cons_zero, List.set_cons_succ, List.getElem?_cons_zero, List.getElem?_cons_succ, Nat.reduceAdd, Nat.reduceSub, Nat.zero_add, Nat.sub_self, List.replicate_zero, List.replicate_succ, Nat.reduceLeDiff, if_true, if_false, Bool.false_eq_true, Bool.not_true, Bool.not_false, decide_eq_true_eq]
/-- the numerator, the denominator of n / d are no greater -/
theorem num_le (n : Int) {d : Int} (hd : d ≠ 0) : (Rat.divInt n d).num.natAbs ≤ n.natAbs := by
  rw [Rat.num_divInt]
  have h1 : (d.sign * n / ((d.gcd n : Nat) : Int)).natAbs ≤ (d.sign * n).natAbs := by
    rw [Int.natAbs_ediv_of_dvd]
    · exact Nat.div_le_self _ _
    · exact Int.dvd_mul_of_dvd_right (Int.gcd_dvd_right ..)
  rw [Int.natAbs_mul, Int.natAbs_sign_of_ne_zero hd, Nat.one_mul] at h1
  exact h1
theorem den_le (n : Int) {d : Int} (hd : d ≠ 0) : (Rat.divInt n d).den ≤ d.natAbs := by
  rw [Rat.den_divInt, if_neg hd]
  exact Nat.div_le_self _ _
theorem den0 (q : Rat) : (q.den : Int) ≠ 0 := by have := q.den_pos; omega
end Lk01

set_option exponentiation.threshold 4000
namespace Lk01
open PySem L2 FD SX TL
variable {K : PySem.W.Frag} {cs : Cs}
theorem str_0 : (Str.ofString "0") = S [48] := by decide
theorem str_1 : (Str.ofString "1") = S [49] := by decide
theorem item0 (c : Nat) (r : List Nat) (h : (c :: r).length ≤ 100000) : gIx (.str (S (c :: r))) (.int 0) = some (.str (S [c])) := by
  rw [gIx_str, S_len, if_pos (by omega)]
  show Option.map _ (atI (c :: r) 0) = _
  rw [atI_0]
  rfl
theorem len_S {w : List Nat} (h : w.length ≤ 100000) : gLen [.str (S w)] = some (.int (w.length : Int)) := by
  rw [gLen_str, S_len, if_pos (by omega)]
theorem e_law_digits {w : List Nat} (hl : w.length ≤ 100000) : (Can w → m__law_digits K cs [.str (S w)] = .ok (.int ((NumText.digitsVal w : Nat) : Int))) ∧ (¬ Can w → m__law_digits K cs [.str (S w)] = .ok (.int (-1))) := by
  unfold m__law_digits argN b__law_digits
  have l1 := len_S hl
  cases w with
  | nil =>
    refine ⟨fun h => absurd rfl h.1.1, fun _ => ?_⟩
    have e : ((S [] : Str) == S []) = true := beq_self_eq_true _
    simp only [FD.sSeq_ap, FD.sNext_ap, FD.sBrk_ap, FD.sCont_ap, FD.sIf_ap, FD.sSet_ap, FD.sSetL_ap, FD.sDrop_ap, FD.sRet_ap, FD.sRetN_ap, FD.sFor_ap, FD.sAsg_ap, FD.sRaise_ap, FD.sAppend_ap, FD.sSetIx_ap, FD.eC_ap, FD.eVar_0, FD.eVar_s, FD.e1_ap, FD.e2_ap, FD.t1_ap, FD.t2_ap, FD.eT_ap, FD.tAnd_ap, FD.tOr_ap, FD.tNot_ap, FD.eIf_ap, FD.aNil_ap, FD.aCons_ap, FD.eTup_ap, FD.lLst_ap, FD.eL_ap, FD.eB_ap, FD.eCallR_ap, FD.eAnd_ap, FD.eOr_ap, FD.eNot_ap, FD.eChain_ap, FD.oSeq_ap, FD.oRange_ap, FD.oNone_ap, FD.oInt_ap, FD.lCut_ap, FD.gCutL_lst, FD.gCutL_fls, FD.frzD_int, FD.frzD_bl, FD.frzD_str, FD.frzD_non, FD.frzD_nil, FD.frzD_lst, FD.frzD_fls, FD.outS_nx, FD.outS_rt, FD.outS_exc, FD.runD_eq, FD.Out.bind_ok, FD.Out.bind_exc, FD.Out.bind_bad, FD.stE_ok, FD.stE_exc, FD.stE_bad, FD.andThen_nx, FD.andThen_bk, FD.andThen_ct, FD.andThen_rt, FD.andThen_exc, FD.andThen_bad, FD.ofO_some, FD.ofO_none, FD.Lo.d_sh, FD.Lo.d_ol, FD.Lo.d_od, FD.frz_nil, FD.frz_cons, FD.frz1_0, FD.frz1_n, FD.frz1_s, FD.uName_ap, FD.uTup_ap, FD.uCons_ap, FD.uNil_ap, FD.turn_nx, FD.turn_ct, FD.turn_bk, FD.turn_rt, FD.turn_exc, FD.forD_nil, FD.forD_n, FD.atI_0, FD.atI_1, FD.atI_2, FD.atI_3, FD.unset_rt, FD.unset_nx, FD.unset_bk, FD.unset_ct, Option.bind_some, Option.map_some, FD.gI_int, FD.gI0_int, FD.cI_int, FD.gAdd_int, FD.gNeg_int, FD.eqD_int, FD.eqD_str, FD.eqD_bl, FD.eqD_non, FD.neg2_eq, FD.blD_bl, FD.truD_non, FD.truD_bl, FD.truD_int, FD.truD_tup, FD.truD_lst, FD.truD_fls, FD.truD_dic, FD.Dt.seq_tup, FD.Dt.seq_lst, FD.Dt.seq_fls, FD.gLen_tup, FD.gLen_lst, FD.gLen_fls, FD.gInt_int, FD.gInt_bl, FD.gAbs_int, FD.gGcd_int, FD.gIntA_int, FD.gIntA_bl, FD.gIx_tup, FD.gIx_lst, FD.gIx_fls, FD.isi_int_int, FD.isi_int_bool, FD.isi_bool_int, FD.isi_bool_bool, FD.isi_tup, FD.isi_lst, List.map_cons, List.map_nil, List.length_cons, List.length_nil, List.cons_append, List.nil_append, List.set_cons_zero, List.set_cons_succ, List.getElem?_cons_zero, List.getElem?_cons_succ, Nat.reduceAdd, Nat.reduceSub, Nat.zero_add, Nat.sub_self, List.replicate_zero, List.replicate_succ, Nat.reduceLeDiff, if_true, if_false, Bool.false_eq_true, Bool.not_true, Bool.not_false, decide_eq_true_eq, str_none, e]
  | cons c r =>
    have e0 : ((S (c :: r) : Str) == S []) = false := by rw [S_beq]; rfl
    rw [List.length_cons] at l1
    by_cases h40 : (40 : Int) < ((r.length + 1 : Nat) : Int)
    · refine ⟨fun h => ?_, fun _ => ?_⟩
      · have := h.1.2.1
        rw [List.length_cons] at this
        omega
      · simp only [FD.sSeq_ap, FD.sNext_ap, FD.sBrk_ap, FD.sCont_ap, FD.sIf_ap, FD.sSet_ap, FD.sSetL_ap, FD.sDrop_ap, FD.sRet_ap, FD.sRetN_ap, FD.sFor_ap, FD.sAsg_ap, FD.sRaise_ap, FD.sAppend_ap, FD.sSetIx_ap, FD.eC_ap, FD.eVar_0, FD.eVar_s, FD.e1_ap, FD.e2_ap, FD.t1_ap, FD.t2_ap, FD.eT_ap, FD.tAnd_ap, FD.tOr_ap, FD.tNot_ap, FD.eIf_ap, FD.aNil_ap, FD.aCons_ap, FD.eTup_ap, FD.lLst_ap, FD.eL_ap, FD.eB_ap, FD.eCallR_ap, FD.eAnd_ap, FD.eOr_ap, FD.eNot_ap, FD.eChain_ap, FD.oSeq_ap, FD.oRange_ap, FD.oNone_ap, FD.oInt_ap, FD.lCut_ap, FD.gCutL_lst, FD.gCutL_fls, FD.frzD_int, FD.frzD_bl, FD.frzD_str, FD.frzD_non, FD.frzD_nil, FD.frzD_lst, FD.frzD_fls, FD.outS_nx, FD.outS_rt, FD.outS_exc, FD.runD_eq, FD.Out.bind_ok, FD.Out.bind_exc, FD.Out.bind_bad, FD.stE_ok, FD.stE_exc, FD.stE_bad, FD.andThen_nx, FD.andThen_bk, FD.andThen_ct, FD.andThen_rt, FD.andThen_exc, FD.andThen_bad, FD.ofO_some, FD.ofO_none, FD.Lo.d_sh, FD.Lo.d_ol, FD.Lo.d_od, FD.frz_nil, FD.frz_cons, FD.frz1_0, FD.frz1_n, FD.frz1_s, FD.uName_ap, FD.uTup_ap, FD.uCons_ap, FD.uNil_ap, FD.turn_nx, FD.turn_ct, FD.turn_bk, FD.turn_rt, FD.turn_exc, FD.forD_nil, FD.forD_n, FD.atI_0, FD.atI_1, FD.atI_2, FD.atI_3, FD.unset_rt, FD.unset_nx, FD.unset_bk, FD.unset_ct, Option.bind_some, Option.map_some, FD.gI_int, FD.gI0_int, FD.cI_int, FD.gAdd_int, FD.gNeg_int, FD.eqD_int, FD.eqD_str, FD.eqD_bl, FD.eqD_non, FD.neg2_eq, FD.blD_bl, FD.truD_non, FD.truD_bl, FD.truD_int, FD.truD_tup, FD.truD_lst, FD.truD_fls, FD.truD_dic, FD.Dt.seq_tup, FD.Dt.seq_lst, FD.Dt.seq_fls, FD.gLen_tup, FD.gLen_lst, FD.gLen_fls, FD.gInt_int, FD.gInt_bl, FD.gAbs_int, FD.gGcd_int, FD.gIntA_int, FD.gIntA_bl, FD.gIx_tup, FD.gIx_lst, FD.gIx_fls, FD.isi_int_int, FD.isi_int_bool, FD.isi_bool_int, FD.isi_bool_bool, FD.isi_tup, FD.isi_lst, List.map_cons, List.map_nil, List.length_cons, List.length_nil, List.cons_append, List.nil_append, List.set_cons_zero, List.set_cons_succ, List.getElem?_cons_zero, List.getElem?_cons_succ, Nat.reduceAdd, Nat.reduceSub, Nat.zero_add, Nat.sub_self, List.replicate_zero, List.replicate_succ, Nat.reduceLeDiff, if_true, if_false, Bool.false_eq_true, Bool.not_true, Bool.not_false, decide_eq_true_eq, str_none, e0, l1, h40, decide_true]
    · have i0 := item0 c r hl
      obtain ⟨b', el⟩ := dig_loop (c :: r) (some (.sh (.str (S (c :: r))))) none
      have hs : (S (c :: r)).cps.toList = c :: r := rfl
      have le40 : (c :: r).length ≤ 40 := by rw [List.length_cons]; omega
      by_cases hz : c = 48 ∧ r ≠ []
      · obtain ⟨hc, hr⟩ := hz
        subst hc
        refine ⟨fun h => ?_, fun _ => ?_⟩
        · exact absurd (num_head h.2) hr
        · have e1 : ((S [48] : Str) == S [48]) = true := beq_self_eq_true _
          have h1 : (1 : Int) < ((r.length + 1 : Nat) : Int) := by
            have := List.length_pos_iff.mpr hr
            omega
          simp only [FD.sSeq_ap, FD.sNext_ap, FD.sBrk_ap, FD.sCont_ap, FD.sIf_ap, FD.sSet_ap, FD.sSetL_ap, FD.sDrop_ap, FD.sRet_ap, FD.sRetN_ap, FD.sFor_ap, FD.sAsg_ap, FD.sRaise_ap, FD.sAppend_ap, FD.sSetIx_ap, FD.eC_ap, FD.eVar_0, FD.eVar_s, FD.e1_ap, FD.e2_ap, FD.t1_ap, FD.t2_ap, FD.eT_ap, FD.tAnd_ap, FD.tOr_ap, FD.tNot_ap, FD.eIf_ap, FD.aNil_ap, FD.aCons_ap, FD.eTup_ap, FD.lLst_ap, FD.eL_ap, FD.eB_ap, FD.eCallR_ap, FD.eAnd_ap, FD.eOr_ap, FD.eNot_ap, FD.eChain_ap, FD.oSeq_ap, FD.oRange_ap, FD.oNone_ap, FD.oInt_ap, FD.lCut_ap, FD.gCutL_lst, FD.gCutL_fls, FD.frzD_int, FD.frzD_bl, FD.frzD_str, FD.frzD_non, FD.frzD_nil, FD.frzD_lst, FD.frzD_fls, FD.outS_nx, FD.outS_rt, FD.outS_exc, FD.runD_eq, FD.Out.bind_ok, FD.Out.bind_exc, FD.Out.bind_bad, FD.stE_ok, FD.stE_exc, FD.stE_bad, FD.andThen_nx, FD.andThen_bk, FD.andThen_ct, FD.andThen_rt, FD.andThen_exc, FD.andThen_bad, FD.ofO_some, FD.ofO_none, FD.Lo.d_sh, FD.Lo.d_ol, FD.Lo.d_od, FD.frz_nil, FD.frz_cons, FD.frz1_0, FD.frz1_n, FD.frz1_s, FD.uName_ap, FD.uTup_ap, FD.uCons_ap, FD.uNil_ap, FD.turn_nx, FD.turn_ct, FD.turn_bk, FD.turn_rt, FD.turn_exc, FD.forD_nil, FD.forD_n, FD.atI_0, FD.atI_1, FD.atI_2, FD.atI_3, FD.unset_rt, FD.unset_nx, FD.unset_bk, FD.unset_ct, Option.bind_some, Option.map_some, FD.gI_int, FD.gI0_int, FD.cI_int, FD.gAdd_int, FD.gNeg_int, FD.eqD_int, FD.eqD_str, FD.eqD_bl, FD.eqD_non, FD.neg2_eq, FD.blD_bl, FD.truD_non, FD.truD_bl, FD.truD_int, FD.truD_tup, FD.truD_lst, FD.truD_fls, FD.truD_dic, FD.Dt.seq_tup, FD.Dt.seq_lst, FD.Dt.seq_fls, FD.gLen_tup, FD.gLen_lst, FD.gLen_fls, FD.gInt_int, FD.gInt_bl, FD.gAbs_int, FD.gGcd_int, FD.gIntA_int, FD.gIntA_bl, FD.gIx_tup, FD.gIx_lst, FD.gIx_fls, FD.isi_int_int, FD.isi_int_bool, FD.isi_bool_int, FD.isi_bool_bool, FD.isi_tup, FD.isi_lst, List.map_cons, List.map_nil, List.length_cons, List.length_nil, List.cons_append, List.nil_append, List.set_cons_zero, List.set_cons_succ, List.getElem?_cons_zero, List.getElem?_cons_succ, Nat.reduceAdd, Nat.reduceSub, Nat.zero_add, Nat.sub_self, List.replicate_zero, List.replicate_succ, Nat.reduceLeDiff, if_true, if_false, Bool.false_eq_true, Bool.not_true, Bool.not_false, decide_eq_true_eq, str_none, str_0, e0, l1, h40, decide_false, i0, e1, h1, decide_true]
      · have hsq : ((S (c :: r)).cps.toList.map fun c => Dt.str ⟨#[c]⟩) = (c :: r).map fun c => Dt.str ⟨#[c]⟩ := rfl
        by_cases hd : ∀ d ∈ c :: r, 48 ≤ d ∧ d ≤ 57
        · rw [if_pos hd] at el
          have dg : Dig (c :: r) := ⟨by simp, le40, hd⟩
          have iv := int_dig dg
          have cn : Can (c :: r) := by
            refine ⟨dg, num_canon hd (by simp) ?_⟩
            by_cases hc : c = 48
            · left
              by_cases hr : r = []
              · rw [hr]; rfl
              · exact absurd ⟨hc, hr⟩ hz
            · right
              have := hd c List.mem_cons_self
              exact ⟨c, r, rfl, by omega⟩
          refine ⟨fun _ => ?_, fun h => absurd cn h⟩
          by_cases hc : c = 48
          · have hr : r = [] := by
              by_cases hr : r = []
              · exact hr
              · exact absurd ⟨hc, hr⟩ hz
            subst hc hr
            have h1 : ¬ (1 : Int) < ((0 + 1 : Nat) : Int) := by decide
            have h4 : ¬ (40 : Int) < ((0 + 1 : Nat) : Int) := by decide
            rw [List.length_nil] at l1
            simp only [List.map_cons, List.map_nil] at el
            simp only [FD.sSeq_ap, FD.sNext_ap, FD.sBrk_ap, FD.sCont_ap, FD.sIf_ap, FD.sSet_ap, FD.sSetL_ap, FD.sDrop_ap, FD.sRet_ap, FD.sRetN_ap, FD.sFor_ap, FD.sAsg_ap, FD.sRaise_ap, FD.sAppend_ap, FD.sSetIx_ap, FD.eC_ap, FD.eVar_0, FD.eVar_s, FD.e1_ap, FD.e2_ap, FD.t1_ap, FD.t2_ap, FD.eT_ap, FD.tAnd_ap, FD.tOr_ap, FD.tNot_ap, FD.eIf_ap, FD.aNil_ap, FD.aCons_ap, FD.eTup_ap, FD.lLst_ap, FD.eL_ap, FD.eB_ap, FD.eCallR_ap, FD.eAnd_ap, FD.eOr_ap, FD.eNot_ap, FD.eChain_ap, FD.oSeq_ap, FD.oRange_ap, FD.oNone_ap, FD.oInt_ap, FD.lCut_ap, FD.gCutL_lst, FD.gCutL_fls, FD.frzD_int, FD.frzD_bl, FD.frzD_str, FD.frzD_non, FD.frzD_nil, FD.frzD_lst, FD.frzD_fls, FD.outS_nx, FD.outS_rt, FD.outS_exc, FD.runD_eq, FD.Out.bind_ok, FD.Out.bind_exc, FD.Out.bind_bad, FD.stE_ok, FD.stE_exc, FD.stE_bad, FD.andThen_nx, FD.andThen_bk, FD.andThen_ct, FD.andThen_rt, FD.andThen_exc, FD.andThen_bad, FD.ofO_some, FD.ofO_none, FD.Lo.d_sh, FD.Lo.d_ol, FD.Lo.d_od, FD.frz_nil, FD.frz_cons, FD.frz1_0, FD.frz1_n, FD.frz1_s, FD.uName_ap, FD.uTup_ap, FD.uCons_ap, FD.uNil_ap, FD.turn_nx, FD.turn_ct, FD.turn_bk, FD.turn_rt, FD.turn_exc, FD.forD_nil, FD.atI_0, FD.atI_1, FD.atI_2, FD.atI_3, FD.unset_rt, FD.unset_nx, FD.unset_bk, FD.unset_ct, Option.bind_some, Option.map_some, FD.gI_int, FD.gI0_int, FD.cI_int, FD.gAdd_int, FD.gNeg_int, FD.eqD_int, FD.eqD_str, FD.eqD_bl, FD.eqD_non, FD.neg2_eq, FD.blD_bl, FD.truD_non, FD.truD_bl, FD.truD_int, FD.truD_tup, FD.truD_lst, FD.truD_fls, FD.truD_dic, FD.Dt.seq_tup, FD.Dt.seq_lst, FD.Dt.seq_fls, FD.gLen_tup, FD.gLen_lst, FD.gLen_fls, FD.gInt_int, FD.gInt_bl, FD.gAbs_int, FD.gGcd_int, FD.gIntA_int, FD.gIntA_bl, FD.gIx_tup, FD.gIx_lst, FD.gIx_fls, FD.isi_int_int, FD.isi_int_bool, FD.isi_bool_int, FD.isi_bool_bool, FD.isi_tup, FD.isi_lst, List.map_cons, List.map_nil, List.length_cons, List.length_nil, List.cons_append, List.nil_append, List.set_cons_zero, List.set_cons_succ, List.getElem?_cons_zero, List.getElem?_cons_succ, Nat.reduceAdd, Nat.reduceSub, Nat.zero_add, Nat.sub_self, List.replicate_zero, List.replicate_succ, Nat.reduceLeDiff, if_true, if_false, Bool.false_eq_true, Bool.not_true, Bool.not_false, decide_eq_true_eq, str_none, str_0, e0, l1, h4, h1, decide_false, i0, beq_self_eq_true, FD.Dt.seq_str, hsq, el, iv]
          · have e2 : ((S [c] : Str) == S [48]) = false := by rw [S_beq]; simpa using hc
            simp only [List.map_cons, List.map_nil] at el
            simp only [FD.sSeq_ap, FD.sNext_ap, FD.sBrk_ap, FD.sCont_ap, FD.sIf_ap, FD.sSet_ap, FD.sSetL_ap, FD.sDrop_ap, FD.sRet_ap, FD.sRetN_ap, FD.sFor_ap, FD.sAsg_ap, FD.sRaise_ap, FD.sAppend_ap, FD.sSetIx_ap, FD.eC_ap, FD.eVar_0, FD.eVar_s, FD.e1_ap, FD.e2_ap, FD.t1_ap, FD.t2_ap, FD.eT_ap, FD.tAnd_ap, FD.tOr_ap, FD.tNot_ap, FD.eIf_ap, FD.aNil_ap, FD.aCons_ap, FD.eTup_ap, FD.lLst_ap, FD.eL_ap, FD.eB_ap, FD.eCallR_ap, FD.eAnd_ap, FD.eOr_ap, FD.eNot_ap, FD.eChain_ap, FD.oSeq_ap, FD.oRange_ap, FD.oNone_ap, FD.oInt_ap, FD.lCut_ap, FD.gCutL_lst, FD.gCutL_fls, FD.frzD_int, FD.frzD_bl, FD.frzD_str, FD.frzD_non, FD.frzD_nil, FD.frzD_lst, FD.frzD_fls, FD.outS_nx, FD.outS_rt, FD.outS_exc, FD.runD_eq, FD.Out.bind_ok, FD.Out.bind_exc, FD.Out.bind_bad, FD.stE_ok, FD.stE_exc, FD.stE_bad, FD.andThen_nx, FD.andThen_bk, FD.andThen_ct, FD.andThen_rt, FD.andThen_exc, FD.andThen_bad, FD.ofO_some, FD.ofO_none, FD.Lo.d_sh, FD.Lo.d_ol, FD.Lo.d_od, FD.frz_nil, FD.frz_cons, FD.frz1_0, FD.frz1_n, FD.frz1_s, FD.uName_ap, FD.uTup_ap, FD.uCons_ap, FD.uNil_ap, FD.turn_nx, FD.turn_ct, FD.turn_bk, FD.turn_rt, FD.turn_exc, FD.forD_nil, FD.atI_0, FD.atI_1, FD.atI_2, FD.atI_3, FD.unset_rt, FD.unset_nx, FD.unset_bk, FD.unset_ct, Option.bind_some, Option.map_some, FD.gI_int, FD.gI0_int, FD.cI_int, FD.gAdd_int, FD.gNeg_int, FD.eqD_int, FD.eqD_str, FD.eqD_bl, FD.eqD_non, FD.neg2_eq, FD.blD_bl, FD.truD_non, FD.truD_bl, FD.truD_int, FD.truD_tup, FD.truD_lst, FD.truD_fls, FD.truD_dic, FD.Dt.seq_tup, FD.Dt.seq_lst, FD.Dt.seq_fls, FD.gLen_tup, FD.gLen_lst, FD.gLen_fls, FD.gInt_int, FD.gInt_bl, FD.gAbs_int, FD.gGcd_int, FD.gIntA_int, FD.gIntA_bl, FD.gIx_tup, FD.gIx_lst, FD.gIx_fls, FD.isi_int_int, FD.isi_int_bool, FD.isi_bool_int, FD.isi_bool_bool, FD.isi_tup, FD.isi_lst, List.map_cons, List.map_nil, List.length_cons, List.length_nil, List.cons_append, List.nil_append, List.set_cons_zero, List.set_cons_succ, List.getElem?_cons_zero, List.getElem?_cons_succ, Nat.reduceAdd, Nat.reduceSub, Nat.zero_add, Nat.sub_self, List.replicate_zero, List.replicate_succ, Nat.reduceLeDiff, if_true, if_false, Bool.false_eq_true, Bool.not_true, Bool.not_false, decide_eq_true_eq, str_none, str_0, e0, l1, h40, decide_false, i0, e2, FD.Dt.seq_str, hsq, el, iv]
        · rw [if_neg hd] at el
          refine ⟨fun h => absurd h.1.2.2 hd, fun _ => ?_⟩
          by_cases hc : c = 48
          · have hr : r = [] := by
              by_cases hr : r = []
              · exact hr
              · exact absurd ⟨hc, hr⟩ hz
            exact absurd (by subst hc hr; intro d hd; rw [List.mem_singleton.mp hd]; decide) hd
          · have e2 : ((S [c] : Str) == S [48]) = false := by rw [S_beq]; simpa using hc
            simp only [List.map_cons, List.map_nil] at el
            simp only [FD.sSeq_ap, FD.sNext_ap, FD.sBrk_ap, FD.sCont_ap, FD.sIf_ap, FD.sSet_ap, FD.sSetL_ap, FD.sDrop_ap, FD.sRet_ap, FD.sRetN_ap, FD.sFor_ap, FD.sAsg_ap, FD.sRaise_ap, FD.sAppend_ap, FD.sSetIx_ap, FD.eC_ap, FD.eVar_0, FD.eVar_s, FD.e1_ap, FD.e2_ap, FD.t1_ap, FD.t2_ap, FD.eT_ap, FD.tAnd_ap, FD.tOr_ap, FD.tNot_ap, FD.eIf_ap, FD.aNil_ap, FD.aCons_ap, FD.eTup_ap, FD.lLst_ap, FD.eL_ap, FD.eB_ap, FD.eCallR_ap, FD.eAnd_ap, FD.eOr_ap, FD.eNot_ap, FD.eChain_ap, FD.oSeq_ap, FD.oRange_ap, FD.oNone_ap, FD.oInt_ap, FD.lCut_ap, FD.gCutL_lst, FD.gCutL_fls, FD.frzD_int, FD.frzD_bl, FD.frzD_str, FD.frzD_non, FD.frzD_nil, FD.frzD_lst, FD.frzD_fls, FD.outS_nx, FD.outS_rt, FD.outS_exc, FD.runD_eq, FD.Out.bind_ok, FD.Out.bind_exc, FD.Out.bind_bad, FD.stE_ok, FD.stE_exc, FD.stE_bad, FD.andThen_nx, FD.andThen_bk, FD.andThen_ct, FD.andThen_rt, FD.andThen_exc, FD.andThen_bad, FD.ofO_some, FD.ofO_none, FD.Lo.d_sh, FD.Lo.d_ol, FD.Lo.d_od, FD.frz_nil, FD.frz_cons, FD.frz1_0, FD.frz1_n, FD.frz1_s, FD.uName_ap, FD.uTup_ap, FD.uCons_ap, FD.uNil_ap, FD.turn_nx, FD.turn_ct, FD.turn_bk, FD.turn_rt, FD.turn_exc, FD.forD_nil, FD.atI_0, FD.atI_1, FD.atI_2, FD.atI_3, FD.unset_rt, FD.unset_nx, FD.unset_bk, FD.unset_ct, Option.bind_some, Option.map_some, FD.gI_int, FD.gI0_int, FD.cI_int, FD.gAdd_int, FD.gNeg_int, FD.eqD_int, FD.eqD_str, FD.eqD_bl, FD.eqD_non, FD.neg2_eq, FD.blD_bl, FD.truD_non, FD.truD_bl, FD.truD_int, FD.truD_tup, FD.truD_lst, FD.truD_fls, FD.truD_dic, FD.Dt.seq_tup, FD.Dt.seq_lst, FD.Dt.seq_fls, FD.gLen_tup, FD.gLen_lst, FD.gLen_fls, FD.gInt_int, FD.gInt_bl, FD.gAbs_int, FD.gGcd_int, FD.gIntA_int, FD.gIntA_bl, FD.gIx_tup, FD.gIx_lst, FD.gIx_fls, FD.isi_int_int, FD.isi_int_bool, FD.isi_bool_int, FD.isi_bool_bool, FD.isi_tup, FD.isi_lst, List.map_cons, List.map_nil, List.length_cons, List.length_nil, List.cons_append, List.nil_append, List.set_cons_zero, List.set_cons_succ, List.getElem?_cons_zero, List.getElem?_cons_succ, Nat.reduceAdd, Nat.reduceSub, Nat.zero_add, Nat.sub_self, List.replicate_zero, List.replicate_succ, Nat.reduceLeDiff, if_true, if_false, Bool.false_eq_true, Bool.not_true, Bool.not_false, decide_eq_true_eq, str_none, str_0, e0, l1, h40, decide_false, i0, e2, FD.Dt.seq_str, hsq, el]
end Lk01

set_option exponentiation.threshold 4000
namespace Lk01
open PySem L2 FD SX TL
variable {K : PySem.W.Frag} {cs : Cs}
theorem is_t {w : List Nat} (hl : w.length ≤ 100000) (h : Dig w) : m_is_digits K cs [.str (S w)] = .ok (.bl true) := by
  rw [e_is_digits w hl, decide_eq_true]
  exact h
theorem is_f {w : List Nat} (hl : w.length ≤ 100000) (h : ¬ Dig w) : m_is_digits K cs [.str (S w)] = .ok (.bl false) := by
  rw [e_is_digits w hl, decide_eq_false]
  exact h
/-- what read_exact raises -/
def badX (cs : Cs) (t : List Nat) : Exn := ⟨cs.c_BadExact, fn_BadExact.zip [.str (S t)]⟩
/-- read_exact behind its first two rows -/
noncomputable def bRead2 (K : PySem.W.Frag) (cs : Cs) : FD.Env → SOut :=
    (sSeq (sIf (tOrD (tNotD (t1 (eCallR (m_is_digits K cs) (aCons (eM1 (eVar 1) (eC (.str "-")) gRemPre) aNil)) truD)) (tNotD (t1 (eCallR (m_is_digits K cs) (aCons (eVar 3) aNil)) truD))) (sRaise cs.c_BadExact fn_BadExact g_BadExact (aCons (eVar 0) aNil)) sNext)
    (sSeq (sSet 4 (eB gIntA (aCons (eVar 3) aNil)) [])
    (sSeq (sIf (t2 (eVar 4) (eC (.int 0)) eqD) (sRaise cs.c_BadExact fn_BadExact g_BadExact (aCons (eVar 0) aNil)) sNext)
    (sSeq (sSet 5 (eCallR (m_exact K cs) (aCons (eB gIntA (aCons (eVar 1) aNil)) (aCons (eVar 4) aNil))) [4])
    (sSeq (sIf (t2 (eCallR (m_exact_text K cs) (aCons (eVar 5) aNil)) (eVar 0) neD) (sRaise cs.c_BadExact fn_BadExact g_BadExact (aCons (eVar 0) aNil)) sNext)
    (sRet (eVar 5)))))))
theorem read_eq : b_read_exact K cs = sSeq (sAsg (uTup (uCons (uName 1) (uCons (uName 2) (uCons (uName 3) uNil)))) (eM1 (eVar 0) (eC (.str "/")) gPart) []) (sSeq (sIf (tNotD (t1 (eVar 2) truD)) (sSet 3 (eC (.str "1")) []) sNext) (bRead2 K cs)) := rfl
theorem neD_str (a b : Str) : neD (.str a) (.str b) = some (!(a == b)) := rfl
section
variable {t top bot : List Nat} {bar : Option Lo}
theorem raise_ok (hl : t.length ≤ 50000) (ha : ∀ c ∈ t, c < 128) : g_BadExact [.str (S t)] = true := by
  refine decide_eq_true ?_
  have h := PySem.StrLaws.reprText_len (S t) (fun c hc => by have := ha c hc; omega)
  rw [S_len t] at h
  omega
theorem rem_ev (ht : top.length ≤ 50000) (b : Option Lo) (x y z u : Option Lo) : eM1 (eVar 1) (eC (.str "-")) gRemPre [x, some (.sh (.str (S top))), y, z, u, b] = .ok (.str (S (noDash top))) := by
  unfold eM1
  simp only [FD.sSeq_ap, FD.sNext_ap, FD.sBrk_ap, FD.sCont_ap, FD.sIf_ap, FD.sSet_ap, FD.sSetL_ap, FD.sDrop_ap, FD.sRet_ap, FD.sRetN_ap, FD.sFor_ap, FD.sAsg_ap, FD.sRaise_ap, FD.sAppend_ap, FD.sSetIx_ap, FD.eC_ap, FD.eVar_0, FD.eVar_s, FD.e1_ap, FD.e2_ap, FD.t1_ap, FD.t2_ap, FD.eT_ap, FD.tAnd_ap, FD.tOr_ap, FD.tNot_ap, FD.eIf_ap, FD.aNil_ap, FD.aCons_ap, FD.eTup_ap, FD.lLst_ap, FD.eL_ap, FD.eB_ap, FD.eCallR_ap, FD.eAnd_ap, FD.eOr_ap, FD.eNot_ap, FD.eChain_ap, FD.oSeq_ap, FD.oRange_ap, FD.oNone_ap, FD.oInt_ap, FD.lCut_ap, FD.gCutL_lst, FD.gCutL_fls, FD.frzD_int, FD.frzD_bl, FD.frzD_str, FD.frzD_non, FD.frzD_nil, FD.frzD_lst, FD.frzD_fls, FD.outS_nx, FD.outS_rt, FD.outS_exc, FD.runD_eq, FD.Out.bind_ok, FD.Out.bind_exc, FD.Out.bind_bad, FD.stE_ok, FD.stE_exc, FD.stE_bad, FD.andThen_nx, FD.andThen_bk, FD.andThen_ct, FD.andThen_rt, FD.andThen_exc, FD.andThen_bad, FD.ofO_some, FD.ofO_none, FD.Lo.d_sh, FD.Lo.d_ol, FD.Lo.d_od, FD.frz_nil, FD.frz_cons, FD.frz1_0, FD.frz1_n, FD.frz1_s, FD.uName_ap, FD.uTup_ap, FD.uCons_ap, FD.uNil_ap, FD.turn_nx, FD.turn_ct, FD.turn_bk, FD.turn_rt, FD.turn_exc, FD.forD_nil, FD.forD_n, FD.atI_0, FD.atI_1, FD.atI_2, FD.atI_3, FD.unset_rt, FD.unset_nx, FD.unset_bk, FD.unset_ct, Option.bind_some, Option.map_some, FD.gI_int, FD.gI0_int, FD.cI_int, FD.gAdd_int, FD.gNeg_int, FD.eqD_int, FD.eqD_str, FD.eqD_bl, FD.eqD_non, FD.neg2_eq, FD.blD_bl, FD.truD_non, FD.truD_bl, FD.truD_int, FD.truD_tup, FD.truD_lst, FD.truD_fls, FD.truD_dic, FD.Dt.seq_tup, FD.Dt.seq_lst, FD.Dt.seq_fls, FD.gLen_tup, FD.gLen_lst, FD.gLen_fls, FD.gInt_int, FD.gInt_bl, FD.gAbs_int, FD.gGcd_int, FD.gIntA_int, FD.gIntA_bl, FD.gIx_tup, FD.gIx_lst, FD.gIx_fls, FD.isi_int_int, FD.isi_int_bool, FD.isi_bool_int, FD.isi_bool_bool, FD.isi_tup, FD.isi_lst, List.map_cons, List.map_nil, List.length_cons, List.length_nil, List.cons_append, List.nil_append, List.set_cons_zero, List.set_cons_succ, List.getElem?_cons_zero, List.getElem?_cons_succ, Nat.reduceAdd, Nat.reduceSub, Nat.zero_add, Nat.sub_self, List.replicate_zero, List.replicate_succ, Nat.reduceLeDiff, if_true, if_false, Bool.false_eq_true, Bool.not_true, Bool.not_false, decide_eq_true_eq, str_dash]
  show ofO (if (S top).length ≤ 16777216 then some (Dt.str (Txt.removeprefix (S top) (S [45]))) else none) = _
  rw [if_pos (by rw [S_len]; omega), rem_dash]
  rfl
theorem noDash_len (l : List Nat) : (noDash l).length ≤ l.length := by
  unfold noDash
  split <;> simp
theorem core_bad (hl : t.length ≤ 50000) (ha : ∀ c ∈ t, c < 128) (ht : top.length ≤ 50000) (hb : bot.length ≤ 50000) (h : ¬ (Dig (noDash top) ∧ Dig bot)) :
    outS (bRead2 K cs [some (.sh (.str (S t))), some (.sh (.str (S top))), bar, some (.sh (.str (S bot))), none, none]) = .exc (badX cs t) := by
  unfold bRead2
  have rv := raise_ok hl ha
  have nl := noDash_len top
  have pu : Dt.pures [Dt.str (S t)] = true := rfl
  have hfn : (1 : Nat) = fn_BadExact.length := rfl
  by_cases h1 : Dig (noDash top)
  · have h2 : ¬ Dig bot := fun z => h ⟨h1, z⟩
    simp only [FD.sSeq_ap, FD.sNext_ap, FD.sBrk_ap, FD.sCont_ap, FD.sIf_ap, FD.sSet_ap, FD.sSetL_ap, FD.sDrop_ap, FD.sRet_ap, FD.sRetN_ap, FD.sFor_ap, FD.sAsg_ap, FD.sRaise_ap, FD.sAppend_ap, FD.sSetIx_ap, FD.eC_ap, FD.eVar_0, FD.eVar_s, FD.e1_ap, FD.e2_ap, FD.t1_ap, FD.t2_ap, FD.eT_ap, FD.tAnd_ap, FD.tOr_ap, FD.tNot_ap, FD.eIf_ap, FD.aNil_ap, FD.aCons_ap, FD.eTup_ap, FD.lLst_ap, FD.eL_ap, FD.eB_ap, FD.eCallR_ap, FD.eAnd_ap, FD.eOr_ap, FD.eNot_ap, FD.eChain_ap, FD.oSeq_ap, FD.oRange_ap, FD.oNone_ap, FD.oInt_ap, FD.lCut_ap, FD.gCutL_lst, FD.gCutL_fls, FD.frzD_int, FD.frzD_bl, FD.frzD_str, FD.frzD_non, FD.frzD_nil, FD.frzD_lst, FD.frzD_fls, FD.outS_nx, FD.outS_rt, FD.outS_exc, FD.runD_eq, FD.Out.bind_ok, FD.Out.bind_exc, FD.Out.bind_bad, FD.stE_ok, FD.stE_exc, FD.stE_bad, FD.andThen_nx, FD.andThen_bk, FD.andThen_ct, FD.andThen_rt, FD.andThen_exc, FD.andThen_bad, FD.ofO_some, FD.ofO_none, FD.Lo.d_sh, FD.Lo.d_ol, FD.Lo.d_od, FD.frz_nil, FD.frz_cons, FD.frz1_0, FD.frz1_n, FD.frz1_s, FD.uName_ap, FD.uTup_ap, FD.uCons_ap, FD.uNil_ap, FD.turn_nx, FD.turn_ct, FD.turn_bk, FD.turn_rt, FD.turn_exc, FD.forD_nil, FD.forD_n, FD.atI_0, FD.atI_1, FD.atI_2, FD.atI_3, FD.unset_rt, FD.unset_nx, FD.unset_bk, FD.unset_ct, Option.bind_some, Option.map_some, FD.gI_int, FD.gI0_int, FD.cI_int, FD.gAdd_int, FD.gNeg_int, FD.eqD_int, FD.eqD_str, FD.eqD_bl, FD.eqD_non, FD.neg2_eq, FD.blD_bl, FD.truD_non, FD.truD_bl, FD.truD_int, FD.truD_tup, FD.truD_lst, FD.truD_fls, FD.truD_dic, FD.Dt.seq_tup, FD.Dt.seq_lst, FD.Dt.seq_fls, FD.gLen_tup, FD.gLen_lst, FD.gLen_fls, FD.gInt_int, FD.gInt_bl, FD.gAbs_int, FD.gGcd_int, FD.gIntA_int, FD.gIntA_bl, FD.gIx_tup, FD.gIx_lst, FD.gIx_fls, FD.isi_int_int, FD.isi_int_bool, FD.isi_bool_int, FD.isi_bool_bool, FD.isi_tup, FD.isi_lst, List.map_cons, List.map_nil, List.length_cons, List.length_nil, List.cons_append, List.nil_append, List.set_cons_zero, List.set_cons_succ, List.getElem?_cons_zero, List.getElem?_cons_succ, Nat.reduceAdd, Nat.reduceSub, Nat.zero_add, Nat.sub_self, List.replicate_zero, List.replicate_succ, Nat.reduceLeDiff, if_true, if_false, Bool.false_eq_true, Bool.not_true, Bool.not_false, decide_eq_true_eq, rem_ev ht, is_t (by omega : (noDash top).length ≤ 100000) h1, is_f (by omega : bot.length ≤ 100000) h2, rv, pu, ← hfn, and_self]
    rfl
  · simp only [FD.sSeq_ap, FD.sNext_ap, FD.sBrk_ap, FD.sCont_ap, FD.sIf_ap, FD.sSet_ap, FD.sSetL_ap, FD.sDrop_ap, FD.sRet_ap, FD.sRetN_ap, FD.sFor_ap, FD.sAsg_ap, FD.sRaise_ap, FD.sAppend_ap, FD.sSetIx_ap, FD.eC_ap, FD.eVar_0, FD.eVar_s, FD.e1_ap, FD.e2_ap, FD.t1_ap, FD.t2_ap, FD.eT_ap, FD.tAnd_ap, FD.tOr_ap, FD.tNot_ap, FD.eIf_ap, FD.aNil_ap, FD.aCons_ap, FD.eTup_ap, FD.lLst_ap, FD.eL_ap, FD.eB_ap, FD.eCallR_ap, FD.eAnd_ap, FD.eOr_ap, FD.eNot_ap, FD.eChain_ap, FD.oSeq_ap, FD.oRange_ap, FD.oNone_ap, FD.oInt_ap, FD.lCut_ap, FD.gCutL_lst, FD.gCutL_fls, FD.frzD_int, FD.frzD_bl, FD.frzD_str, FD.frzD_non, FD.frzD_nil, FD.frzD_lst, FD.frzD_fls, FD.outS_nx, FD.outS_rt, FD.outS_exc, FD.runD_eq, FD.Out.bind_ok, FD.Out.bind_exc, FD.Out.bind_bad, FD.stE_ok, FD.stE_exc, FD.stE_bad, FD.andThen_nx, FD.andThen_bk, FD.andThen_ct, FD.andThen_rt, FD.andThen_exc, FD.andThen_bad, FD.ofO_some, FD.ofO_none, FD.Lo.d_sh, FD.Lo.d_ol, FD.Lo.d_od, FD.frz_nil, FD.frz_cons, FD.frz1_0, FD.frz1_n, FD.frz1_s, FD.uName_ap, FD.uTup_ap, FD.uCons_ap, FD.uNil_ap, FD.turn_nx, FD.turn_ct, FD.turn_bk, FD.turn_rt, FD.turn_exc, FD.forD_nil, FD.forD_n, FD.atI_0, FD.atI_1, FD.atI_2, FD.atI_3, FD.unset_rt, FD.unset_nx, FD.unset_bk, FD.unset_ct, Option.bind_some, Option.map_some, FD.gI_int, FD.gI0_int, FD.cI_int, FD.gAdd_int, FD.gNeg_int, FD.eqD_int, FD.eqD_str, FD.eqD_bl, FD.eqD_non, FD.neg2_eq, FD.blD_bl, FD.truD_non, FD.truD_bl, FD.truD_int, FD.truD_tup, FD.truD_lst, FD.truD_fls, FD.truD_dic, FD.Dt.seq_tup, FD.Dt.seq_lst, FD.Dt.seq_fls, FD.gLen_tup, FD.gLen_lst, FD.gLen_fls, FD.gInt_int, FD.gInt_bl, FD.gAbs_int, FD.gGcd_int, FD.gIntA_int, FD.gIntA_bl, FD.gIx_tup, FD.gIx_lst, FD.gIx_fls, FD.isi_int_int, FD.isi_int_bool, FD.isi_bool_int, FD.isi_bool_bool, FD.isi_tup, FD.isi_lst, List.map_cons, List.map_nil, List.length_cons, List.length_nil, List.cons_append, List.nil_append, List.set_cons_zero, List.set_cons_succ, List.getElem?_cons_zero, List.getElem?_cons_succ, Nat.reduceAdd, Nat.reduceSub, Nat.zero_add, Nat.sub_self, List.replicate_zero, List.replicate_succ, Nat.reduceLeDiff, if_true, if_false, Bool.false_eq_true, Bool.not_true, Bool.not_false, decide_eq_true_eq, rem_ev ht, is_f (by omega : (noDash top).length ≤ 100000) h1, rv, pu, ← hfn, and_self]
    rfl
theorem core_ok {n : Int} {d : Nat} (hl : t.length ≤ 50000) (ha : ∀ c ∈ t, c < 128) (ht : top.length ≤ 50000) (hb : bot.length ≤ 50000) (h1 : Dig (noDash top)) (h2 : Dig bot) (hn : gIntA [.str (S top)] = some (.int n)) (hnb : n.natAbs < 10 ^ 40) (hd : NumText.digitsVal bot = d) (hdb : d < 10 ^ 40) :
    outS (bRead2 K cs [some (.sh (.str (S t))), some (.sh (.str (S top))), bar, some (.sh (.str (S bot))), none, none]) =
      if d = 0 then .exc (badX cs t) else if textL (Rat.divInt n d).num ((Rat.divInt n d).den : Int) = t then .ok (fr (Rat.divInt n d)) else .exc (badX cs t) := by
  unfold bRead2
  have rv := raise_ok hl ha
  have nl := noDash_len top
  have pu : Dt.pures [Dt.str (S t)] = true := rfl
  have hfn : (1 : Nat) = fn_BadExact.length := rfl
  have iv := int_dig h2
  rw [hd] at iv
  by_cases hz : d = 0
  · subst hz
    rw [if_pos rfl]
    have e0 : (((0 : Nat) : Int) == 0) = true := rfl
    simp only [FD.sSeq_ap, FD.sNext_ap, FD.sBrk_ap, FD.sCont_ap, FD.sIf_ap, FD.sSet_ap, FD.sSetL_ap, FD.sDrop_ap, FD.sRet_ap, FD.sRetN_ap, FD.sFor_ap, FD.sAsg_ap, FD.sRaise_ap, FD.sAppend_ap, FD.sSetIx_ap, FD.eC_ap, FD.eVar_0, FD.eVar_s, FD.e1_ap, FD.e2_ap, FD.t1_ap, FD.t2_ap, FD.eT_ap, FD.tAnd_ap, FD.tOr_ap, FD.tNot_ap, FD.eIf_ap, FD.aNil_ap, FD.aCons_ap, FD.eTup_ap, FD.lLst_ap, FD.eL_ap, FD.eB_ap, FD.eCallR_ap, FD.eAnd_ap, FD.eOr_ap, FD.eNot_ap, FD.eChain_ap, FD.oSeq_ap, FD.oRange_ap, FD.oNone_ap, FD.oInt_ap, FD.lCut_ap, FD.gCutL_lst, FD.gCutL_fls, FD.frzD_int, FD.frzD_bl, FD.frzD_str, FD.frzD_non, FD.frzD_nil, FD.frzD_lst, FD.frzD_fls, FD.outS_nx, FD.outS_rt, FD.outS_exc, FD.runD_eq, FD.Out.bind_ok, FD.Out.bind_exc, FD.Out.bind_bad, FD.stE_ok, FD.stE_exc, FD.stE_bad, FD.andThen_nx, FD.andThen_bk, FD.andThen_ct, FD.andThen_rt, FD.andThen_exc, FD.andThen_bad, FD.ofO_some, FD.ofO_none, FD.Lo.d_sh, FD.Lo.d_ol, FD.Lo.d_od, FD.frz_nil, FD.frz_cons, FD.frz1_0, FD.frz1_n, FD.frz1_s, FD.uName_ap, FD.uTup_ap, FD.uCons_ap, FD.uNil_ap, FD.turn_nx, FD.turn_ct, FD.turn_bk, FD.turn_rt, FD.turn_exc, FD.forD_nil, FD.forD_n, FD.atI_0, FD.atI_1, FD.atI_2, FD.atI_3, FD.unset_rt, FD.unset_nx, FD.unset_bk, FD.unset_ct, Option.bind_some, Option.map_some, FD.gI_int, FD.gI0_int, FD.cI_int, FD.gAdd_int, FD.gNeg_int, FD.eqD_int, FD.eqD_str, FD.eqD_bl, FD.eqD_non, FD.neg2_eq, FD.blD_bl, FD.truD_non, FD.truD_bl, FD.truD_int, FD.truD_tup, FD.truD_lst, FD.truD_fls, FD.truD_dic, FD.Dt.seq_tup, FD.Dt.seq_lst, FD.Dt.seq_fls, FD.gLen_tup, FD.gLen_lst, FD.gLen_fls, FD.gInt_int, FD.gInt_bl, FD.gAbs_int, FD.gGcd_int, FD.gIntA_int, FD.gIntA_bl, FD.gIx_tup, FD.gIx_lst, FD.gIx_fls, FD.isi_int_int, FD.isi_int_bool, FD.isi_bool_int, FD.isi_bool_bool, FD.isi_tup, FD.isi_lst, List.map_cons, List.map_nil, List.length_cons, List.length_nil, List.cons_append, List.nil_append, List.set_cons_zero, List.set_cons_succ, List.getElem?_cons_zero, List.getElem?_cons_succ, Nat.reduceAdd, Nat.reduceSub, Nat.zero_add, Nat.sub_self, List.replicate_zero, List.replicate_succ, Nat.reduceLeDiff, if_true, if_false, Bool.false_eq_true, Bool.not_true, Bool.not_false, decide_eq_true_eq, rem_ev ht, is_t (by omega : (noDash top).length ≤ 100000) h1, is_t (by omega : bot.length ≤ 100000) h2, iv, e0, rv, pu, ← hfn, and_self]
    rfl
  · rw [if_neg hz]
    have e0 : (((d : Nat) : Int) == 0) = false := by
      have : ((d : Nat) : Int) ≠ 0 := by omega
      simpa using this
    have dz : ((d : Nat) : Int) ≠ 0 := by omega
    have p40 : (10 : Nat) ^ 40 < 2 ^ 200 := by decide
    have dB : Bd 8000 ((d : Nat) : Int) := by
      have : Bd 200 ((d : Nat) : Int) := by unfold Bd; rw [Int.natAbs_natCast]; omega
      exact this.mono (by decide)
    have hw : 10 ^ 40 ≤ W60 ^ 10 := by
      rw [W60_val, ← Nat.pow_mul]
      exact Nat.pow_le_pow_right (by decide) (by decide)
    have n1 : (Rat.divInt n d).num.natAbs < W60 ^ 10 := by have := num_le n dz; omega
    have d1 : ((Rat.divInt n d).den : Int).natAbs < W60 ^ 10 := by
      have := den_le n dz
      rw [Int.natAbs_natCast] at *
      omega
    have et := e_exact_text (K := K) (cs := cs) n1 d1
    have ef : Dt.tup [.int (Rat.divInt n d).num, .int ((Rat.divInt n d).den : Int)] = fr (Rat.divInt n d) := rfl
    rw [ef] at et
    by_cases he : textL (Rat.divInt n d).num ((Rat.divInt n d).den : Int) = t
    · rw [if_pos he]
      rw [he] at et
      simp only [FD.sSeq_ap, FD.sNext_ap, FD.sBrk_ap, FD.sCont_ap, FD.sIf_ap, FD.sSet_ap, FD.sSetL_ap, FD.sDrop_ap, FD.sRet_ap, FD.sRetN_ap, FD.sFor_ap, FD.sAsg_ap, FD.sRaise_ap, FD.sAppend_ap, FD.sSetIx_ap, FD.eC_ap, FD.eVar_0, FD.eVar_s, FD.e1_ap, FD.e2_ap, FD.t1_ap, FD.t2_ap, FD.eT_ap, FD.tAnd_ap, FD.tOr_ap, FD.tNot_ap, FD.eIf_ap, FD.aNil_ap, FD.aCons_ap, FD.eTup_ap, FD.lLst_ap, FD.eL_ap, FD.eB_ap, FD.eCallR_ap, FD.eAnd_ap, FD.eOr_ap, FD.eNot_ap, FD.eChain_ap, FD.oSeq_ap, FD.oRange_ap, FD.oNone_ap, FD.oInt_ap, FD.lCut_ap, FD.gCutL_lst, FD.gCutL_fls, FD.frzD_int, FD.frzD_bl, FD.frzD_str, FD.frzD_non, FD.frzD_nil, FD.frzD_lst, FD.frzD_fls, FD.outS_nx, FD.outS_rt, FD.outS_exc, FD.runD_eq, FD.Out.bind_ok, FD.Out.bind_exc, FD.Out.bind_bad, FD.stE_ok, FD.stE_exc, FD.stE_bad, FD.andThen_nx, FD.andThen_bk, FD.andThen_ct, FD.andThen_rt, FD.andThen_exc, FD.andThen_bad, FD.ofO_some, FD.ofO_none, FD.Lo.d_sh, FD.Lo.d_ol, FD.Lo.d_od, FD.frz_nil, FD.frz_cons, FD.frz1_0, FD.frz1_n, FD.frz1_s, FD.uName_ap, FD.uTup_ap, FD.uCons_ap, FD.uNil_ap, FD.turn_nx, FD.turn_ct, FD.turn_bk, FD.turn_rt, FD.turn_exc, FD.forD_nil, FD.forD_n, FD.atI_0, FD.atI_1, FD.atI_2, FD.atI_3, FD.unset_rt, FD.unset_nx, FD.unset_bk, FD.unset_ct, Option.bind_some, Option.map_some, FD.gI_int, FD.gI0_int, FD.cI_int, FD.gAdd_int, FD.gNeg_int, FD.eqD_int, FD.eqD_str, FD.eqD_bl, FD.eqD_non, FD.neg2_eq, FD.blD_bl, FD.truD_non, FD.truD_bl, FD.truD_int, FD.truD_tup, FD.truD_lst, FD.truD_fls, FD.truD_dic, FD.Dt.seq_tup, FD.Dt.seq_lst, FD.Dt.seq_fls, FD.gLen_tup, FD.gLen_lst, FD.gLen_fls, FD.gInt_int, FD.gInt_bl, FD.gAbs_int, FD.gGcd_int, FD.gIntA_int, FD.gIntA_bl, FD.gIx_tup, FD.gIx_lst, FD.gIx_fls, FD.isi_int_int, FD.isi_int_bool, FD.isi_bool_int, FD.isi_bool_bool, FD.isi_tup, FD.isi_lst, List.map_cons, List.map_nil, List.length_cons, List.length_nil, List.cons_append, List.nil_append, List.set_cons_zero, List.set_cons_succ, List.getElem?_cons_zero, List.getElem?_cons_succ, Nat.reduceAdd, Nat.reduceSub, Nat.zero_add, Nat.sub_self, List.replicate_zero, List.replicate_succ, Nat.reduceLeDiff, if_true, if_false, Bool.false_eq_true, Bool.not_true, Bool.not_false, decide_eq_true_eq, rem_ev ht, is_t (by omega : (noDash top).length ≤ 100000) h1, is_t (by omega : bot.length ≤ 100000) h2, iv, e0, hn, e_exact dz dB, frz_fr, et, neD_str, beq_self_eq_true]
    · rw [if_neg he]
      have hb2 : ((S (textL (Rat.divInt n d).num ((Rat.divInt n d).den : Int)) : Str) == S t) = false := by rw [S_beq]; simpa using he
      simp only [FD.sSeq_ap, FD.sNext_ap, FD.sBrk_ap, FD.sCont_ap, FD.sIf_ap, FD.sSet_ap, FD.sSetL_ap, FD.sDrop_ap, FD.sRet_ap, FD.sRetN_ap, FD.sFor_ap, FD.sAsg_ap, FD.sRaise_ap, FD.sAppend_ap, FD.sSetIx_ap, FD.eC_ap, FD.eVar_0, FD.eVar_s, FD.e1_ap, FD.e2_ap, FD.t1_ap, FD.t2_ap, FD.eT_ap, FD.tAnd_ap, FD.tOr_ap, FD.tNot_ap, FD.eIf_ap, FD.aNil_ap, FD.aCons_ap, FD.eTup_ap, FD.lLst_ap, FD.eL_ap, FD.eB_ap, FD.eCallR_ap, FD.eAnd_ap, FD.eOr_ap, FD.eNot_ap, FD.eChain_ap, FD.oSeq_ap, FD.oRange_ap, FD.oNone_ap, FD.oInt_ap, FD.lCut_ap, FD.gCutL_lst, FD.gCutL_fls, FD.frzD_int, FD.frzD_bl, FD.frzD_str, FD.frzD_non, FD.frzD_nil, FD.frzD_lst, FD.frzD_fls, FD.outS_nx, FD.outS_rt, FD.outS_exc, FD.runD_eq, FD.Out.bind_ok, FD.Out.bind_exc, FD.Out.bind_bad, FD.stE_ok, FD.stE_exc, FD.stE_bad, FD.andThen_nx, FD.andThen_bk, FD.andThen_ct, FD.andThen_rt, FD.andThen_exc, FD.andThen_bad, FD.ofO_some, FD.ofO_none, FD.Lo.d_sh, FD.Lo.d_ol, FD.Lo.d_od, FD.frz_nil, FD.frz_cons, FD.frz1_0, FD.frz1_n, FD.frz1_s, FD.uName_ap, FD.uTup_ap, FD.uCons_ap, FD.uNil_ap, FD.turn_nx, FD.turn_ct, FD.turn_bk, FD.turn_rt, FD.turn_exc, FD.forD_nil, FD.forD_n, FD.atI_0, FD.atI_1, FD.atI_2, FD.atI_3, FD.unset_rt, FD.unset_nx, FD.unset_bk, FD.unset_ct, Option.bind_some, Option.map_some, FD.gI_int, FD.gI0_int, FD.cI_int, FD.gAdd_int, FD.gNeg_int, FD.eqD_int, FD.eqD_str, FD.eqD_bl, FD.eqD_non, FD.neg2_eq, FD.blD_bl, FD.truD_non, FD.truD_bl, FD.truD_int, FD.truD_tup, FD.truD_lst, FD.truD_fls, FD.truD_dic, FD.Dt.seq_tup, FD.Dt.seq_lst, FD.Dt.seq_fls, FD.gLen_tup, FD.gLen_lst, FD.gLen_fls, FD.gInt_int, FD.gInt_bl, FD.gAbs_int, FD.gGcd_int, FD.gIntA_int, FD.gIntA_bl, FD.gIx_tup, FD.gIx_lst, FD.gIx_fls, FD.isi_int_int, FD.isi_int_bool, FD.isi_bool_int, FD.isi_bool_bool, FD.isi_tup, FD.isi_lst, List.map_cons, List.map_nil, List.length_cons, List.length_nil, List.cons_append, List.nil_append, List.set_cons_zero, List.set_cons_succ, List.getElem?_cons_zero, List.getElem?_cons_succ, Nat.reduceAdd, Nat.reduceSub, Nat.zero_add, Nat.sub_self, List.replicate_zero, List.replicate_succ, Nat.reduceLeDiff, if_true, if_false, Bool.false_eq_true, Bool.not_true, Bool.not_false, decide_eq_true_eq, rem_ev ht, is_t (by omega : (noDash top).length ≤ 100000) h1, is_t (by omega : bot.length ≤ 100000) h2, iv, e0, hn, e_exact dz dB, frz_fr, et, neD_str, hb2, rv, pu, ← hfn, and_self]
      rfl
/-- the two ways in -/
theorem read_none (hl : t.length ≤ 50000) (h : 47 ∉ t) : m_read_exact K cs [.str (S t)] = outS (bRead2 K cs [some (.sh (.str (S t))), some (.sh (.str (S t))), some (.sh (.str (S []))), some (.sh (.str (S [49]))), none, none]) := by
  unfold m_read_exact argN
  rw [read_eq]
  have pt : eM1 (eVar 0) (eC (.str "/")) gPart [some (.sh (.str (S t))), none, none, none, none, none] = .ok (.tup [.str (S t), .str (S []), .str (S [])]) := by
    unfold eM1
    simp only [FD.sSeq_ap, FD.sNext_ap, FD.sBrk_ap, FD.sCont_ap, FD.sIf_ap, FD.sSet_ap, FD.sSetL_ap, FD.sDrop_ap, FD.sRet_ap, FD.sRetN_ap, FD.sFor_ap, FD.sAsg_ap, FD.sRaise_ap, FD.sAppend_ap, FD.sSetIx_ap, FD.eC_ap, FD.eVar_0, FD.eVar_s, FD.e1_ap, FD.e2_ap, FD.t1_ap, FD.t2_ap, FD.eT_ap, FD.tAnd_ap, FD.tOr_ap, FD.tNot_ap, FD.eIf_ap, FD.aNil_ap, FD.aCons_ap, FD.eTup_ap, FD.lLst_ap, FD.eL_ap, FD.eB_ap, FD.eCallR_ap, FD.eAnd_ap, FD.eOr_ap, FD.eNot_ap, FD.eChain_ap, FD.oSeq_ap, FD.oRange_ap, FD.oNone_ap, FD.oInt_ap, FD.lCut_ap, FD.gCutL_lst, FD.gCutL_fls, FD.frzD_int, FD.frzD_bl, FD.frzD_str, FD.frzD_non, FD.frzD_nil, FD.frzD_lst, FD.frzD_fls, FD.outS_nx, FD.outS_rt, FD.outS_exc, FD.runD_eq, FD.Out.bind_ok, FD.Out.bind_exc, FD.Out.bind_bad, FD.stE_ok, FD.stE_exc, FD.stE_bad, FD.andThen_nx, FD.andThen_bk, FD.andThen_ct, FD.andThen_rt, FD.andThen_exc, FD.andThen_bad, FD.ofO_some, FD.ofO_none, FD.Lo.d_sh, FD.Lo.d_ol, FD.Lo.d_od, FD.frz_nil, FD.frz_cons, FD.frz1_0, FD.frz1_n, FD.frz1_s, FD.uName_ap, FD.uTup_ap, FD.uCons_ap, FD.uNil_ap, FD.turn_nx, FD.turn_ct, FD.turn_bk, FD.turn_rt, FD.turn_exc, FD.forD_nil, FD.forD_n, FD.atI_0, FD.atI_1, FD.atI_2, FD.atI_3, FD.unset_rt, FD.unset_nx, FD.unset_bk, FD.unset_ct, Option.bind_some, Option.map_some, FD.gI_int, FD.gI0_int, FD.cI_int, FD.gAdd_int, FD.gNeg_int, FD.eqD_int, FD.eqD_str, FD.eqD_bl, FD.eqD_non, FD.neg2_eq, FD.blD_bl, FD.truD_non, FD.truD_bl, FD.truD_int, FD.truD_tup, FD.truD_lst, FD.truD_fls, FD.truD_dic, FD.Dt.seq_tup, FD.Dt.seq_lst, FD.Dt.seq_fls, FD.gLen_tup, FD.gLen_lst, FD.gLen_fls, FD.gInt_int, FD.gInt_bl, FD.gAbs_int, FD.gGcd_int, FD.gIntA_int, FD.gIntA_bl, FD.gIx_tup, FD.gIx_lst, FD.gIx_fls, FD.isi_int_int, FD.isi_int_bool, FD.isi_bool_int, FD.isi_bool_bool, FD.isi_tup, FD.isi_lst, List.map_cons, List.map_nil, List.length_cons, List.length_nil, List.cons_append, List.nil_append, List.set_cons_zero, List.set_cons_succ, List.getElem?_cons_zero, List.getElem?_cons_succ, Nat.reduceAdd, Nat.reduceSub, Nat.zero_add, Nat.sub_self, List.replicate_zero, List.replicate_succ, Nat.reduceLeDiff, if_true, if_false, Bool.false_eq_true, Bool.not_true, Bool.not_false, decide_eq_true_eq, str_slash]
    show ofO (if (S [47]).length ≠ 0 ∧ (S t).length ≤ 16777216 then some (Dt.tup [.str (Txt.partition (S t) (S [47])).1, .str (Txt.partition (S t) (S [47])).2.1, .str (Txt.partition (S t) (S [47])).2.2]) else none) = _
    rw [if_pos ⟨by decide, by rw [S_len]; omega⟩, SX.partition_none (by decide) (par_head_none h)]
    rfl
  have tr : truD (.str (S [])) = some false := by decide
  simp only [FD.sSeq_ap, FD.sNext_ap, FD.sBrk_ap, FD.sCont_ap, FD.sIf_ap, FD.sSet_ap, FD.sSetL_ap, FD.sDrop_ap, FD.sRet_ap, FD.sRetN_ap, FD.sFor_ap, FD.sAsg_ap, FD.sRaise_ap, FD.sAppend_ap, FD.sSetIx_ap, FD.eC_ap, FD.eVar_0, FD.eVar_s, FD.e1_ap, FD.e2_ap, FD.t1_ap, FD.t2_ap, FD.eT_ap, FD.tAnd_ap, FD.tOr_ap, FD.tNot_ap, FD.eIf_ap, FD.aNil_ap, FD.aCons_ap, FD.eTup_ap, FD.lLst_ap, FD.eL_ap, FD.eB_ap, FD.eCallR_ap, FD.eAnd_ap, FD.eOr_ap, FD.eNot_ap, FD.eChain_ap, FD.oSeq_ap, FD.oRange_ap, FD.oNone_ap, FD.oInt_ap, FD.lCut_ap, FD.gCutL_lst, FD.gCutL_fls, FD.frzD_int, FD.frzD_bl, FD.frzD_str, FD.frzD_non, FD.frzD_nil, FD.frzD_lst, FD.frzD_fls, FD.outS_nx, FD.outS_rt, FD.outS_exc, FD.runD_eq, FD.Out.bind_ok, FD.Out.bind_exc, FD.Out.bind_bad, FD.stE_ok, FD.stE_exc, FD.stE_bad, FD.andThen_nx, FD.andThen_bk, FD.andThen_ct, FD.andThen_rt, FD.andThen_exc, FD.andThen_bad, FD.ofO_some, FD.ofO_none, FD.Lo.d_sh, FD.Lo.d_ol, FD.Lo.d_od, FD.frz_nil, FD.frz_cons, FD.frz1_0, FD.frz1_n, FD.frz1_s, FD.uName_ap, FD.uTup_ap, FD.uCons_ap, FD.uNil_ap, FD.turn_nx, FD.turn_ct, FD.turn_bk, FD.turn_rt, FD.turn_exc, FD.forD_nil, FD.forD_n, FD.atI_0, FD.atI_1, FD.atI_2, FD.atI_3, FD.unset_rt, FD.unset_nx, FD.unset_bk, FD.unset_ct, Option.bind_some, Option.map_some, FD.gI_int, FD.gI0_int, FD.cI_int, FD.gAdd_int, FD.gNeg_int, FD.eqD_int, FD.eqD_str, FD.eqD_bl, FD.eqD_non, FD.neg2_eq, FD.blD_bl, FD.truD_non, FD.truD_bl, FD.truD_int, FD.truD_tup, FD.truD_lst, FD.truD_fls, FD.truD_dic, FD.Dt.seq_tup, FD.Dt.seq_lst, FD.Dt.seq_fls, FD.gLen_tup, FD.gLen_lst, FD.gLen_fls, FD.gInt_int, FD.gInt_bl, FD.gAbs_int, FD.gGcd_int, FD.gIntA_int, FD.gIntA_bl, FD.gIx_tup, FD.gIx_lst, FD.gIx_fls, FD.isi_int_int, FD.isi_int_bool, FD.isi_bool_int, FD.isi_bool_bool, FD.isi_tup, FD.isi_lst, List.map_cons, List.map_nil, List.length_cons, List.length_nil, List.cons_append, List.nil_append, List.set_cons_zero, List.set_cons_succ, List.getElem?_cons_zero, List.getElem?_cons_succ, Nat.reduceAdd, Nat.reduceSub, Nat.zero_add, Nat.sub_self, List.replicate_zero, List.replicate_succ, Nat.reduceLeDiff, if_true, if_false, Bool.false_eq_true, Bool.not_true, Bool.not_false, decide_eq_true_eq, pt, tr, str_1]
theorem read_some {p q : List Nat} (hl : (p ++ 47 :: q).length ≤ 50000) (h : 47 ∉ p) : m_read_exact K cs [.str (S (p ++ 47 :: q))] = outS (bRead2 K cs [some (.sh (.str (S (p ++ 47 :: q)))), some (.sh (.str (S p))), some (.sh (.str (S [47]))), some (.sh (.str (S q))), none, none]) := by
  unfold m_read_exact argN
  rw [read_eq]
  have pt : eM1 (eVar 0) (eC (.str "/")) gPart [some (.sh (.str (S (p ++ 47 :: q)))), none, none, none, none, none] = .ok (.tup [.str (S p), .str (S [47]), .str (S q)]) := by
    unfold eM1
    simp only [FD.sSeq_ap, FD.sNext_ap, FD.sBrk_ap, FD.sCont_ap, FD.sIf_ap, FD.sSet_ap, FD.sSetL_ap, FD.sDrop_ap, FD.sRet_ap, FD.sRetN_ap, FD.sFor_ap, FD.sAsg_ap, FD.sRaise_ap, FD.sAppend_ap, FD.sSetIx_ap, FD.eC_ap, FD.eVar_0, FD.eVar_s, FD.e1_ap, FD.e2_ap, FD.t1_ap, FD.t2_ap, FD.eT_ap, FD.tAnd_ap, FD.tOr_ap, FD.tNot_ap, FD.eIf_ap, FD.aNil_ap, FD.aCons_ap, FD.eTup_ap, FD.lLst_ap, FD.eL_ap, FD.eB_ap, FD.eCallR_ap, FD.eAnd_ap, FD.eOr_ap, FD.eNot_ap, FD.eChain_ap, FD.oSeq_ap, FD.oRange_ap, FD.oNone_ap, FD.oInt_ap, FD.lCut_ap, FD.gCutL_lst, FD.gCutL_fls, FD.frzD_int, FD.frzD_bl, FD.frzD_str, FD.frzD_non, FD.frzD_nil, FD.frzD_lst, FD.frzD_fls, FD.outS_nx, FD.outS_rt, FD.outS_exc, FD.runD_eq, FD.Out.bind_ok, FD.Out.bind_exc, FD.Out.bind_bad, FD.stE_ok, FD.stE_exc, FD.stE_bad, FD.andThen_nx, FD.andThen_bk, FD.andThen_ct, FD.andThen_rt, FD.andThen_exc, FD.andThen_bad, FD.ofO_some, FD.ofO_none, FD.Lo.d_sh, FD.Lo.d_ol, FD.Lo.d_od, FD.frz_nil, FD.frz_cons, FD.frz1_0, FD.frz1_n, FD.frz1_s, FD.uName_ap, FD.uTup_ap, FD.uCons_ap, FD.uNil_ap, FD.turn_nx, FD.turn_ct, FD.turn_bk, FD.turn_rt, FD.turn_exc, FD.forD_nil, FD.forD_n, FD.atI_0, FD.atI_1, FD.atI_2, FD.atI_3, FD.unset_rt, FD.unset_nx, FD.unset_bk, FD.unset_ct, Option.bind_some, Option.map_some, FD.gI_int, FD.gI0_int, FD.cI_int, FD.gAdd_int, FD.gNeg_int, FD.eqD_int, FD.eqD_str, FD.eqD_bl, FD.eqD_non, FD.neg2_eq, FD.blD_bl, FD.truD_non, FD.truD_bl, FD.truD_int, FD.truD_tup, FD.truD_lst, FD.truD_fls, FD.truD_dic, FD.Dt.seq_tup, FD.Dt.seq_lst, FD.Dt.seq_fls, FD.gLen_tup, FD.gLen_lst, FD.gLen_fls, FD.gInt_int, FD.gInt_bl, FD.gAbs_int, FD.gGcd_int, FD.gIntA_int, FD.gIntA_bl, FD.gIx_tup, FD.gIx_lst, FD.gIx_fls, FD.isi_int_int, FD.isi_int_bool, FD.isi_bool_int, FD.isi_bool_bool, FD.isi_tup, FD.isi_lst, List.map_cons, List.map_nil, List.length_cons, List.length_nil, List.cons_append, List.nil_append, List.set_cons_zero, List.set_cons_succ, List.getElem?_cons_zero, List.getElem?_cons_succ, Nat.reduceAdd, Nat.reduceSub, Nat.zero_add, Nat.sub_self, List.replicate_zero, List.replicate_succ, Nat.reduceLeDiff, if_true, if_false, Bool.false_eq_true, Bool.not_true, Bool.not_false, decide_eq_true_eq, str_slash]
    show ofO (if (S [47]).length ≠ 0 ∧ (S (p ++ 47 :: q)).length ≤ 16777216 then some (Dt.tup [.str (Txt.partition (S (p ++ 47 :: q)) (S [47])).1, .str (Txt.partition (S (p ++ 47 :: q)) (S [47])).2.1, .str (Txt.partition (S (p ++ 47 :: q)) (S [47])).2.2]) else none) = _
    rw [if_pos ⟨by decide, by rw [S_len]; omega⟩, SX.partition_some (by decide) (show TL.par [47] [] (p ++ 47 :: q) = some (p, q) from par_head (sep := []) q h)]
    rfl
  have tr : truD (.str (S [47])) = some true := by decide
  simp only [FD.sSeq_ap, FD.sNext_ap, FD.sBrk_ap, FD.sCont_ap, FD.sIf_ap, FD.sSet_ap, FD.sSetL_ap, FD.sDrop_ap, FD.sRet_ap, FD.sRetN_ap, FD.sFor_ap, FD.sAsg_ap, FD.sRaise_ap, FD.sAppend_ap, FD.sSetIx_ap, FD.eC_ap, FD.eVar_0, FD.eVar_s, FD.e1_ap, FD.e2_ap, FD.t1_ap, FD.t2_ap, FD.eT_ap, FD.tAnd_ap, FD.tOr_ap, FD.tNot_ap, FD.eIf_ap, FD.aNil_ap, FD.aCons_ap, FD.eTup_ap, FD.lLst_ap, FD.eL_ap, FD.eB_ap, FD.eCallR_ap, FD.eAnd_ap, FD.eOr_ap, FD.eNot_ap, FD.eChain_ap, FD.oSeq_ap, FD.oRange_ap, FD.oNone_ap, FD.oInt_ap, FD.lCut_ap, FD.gCutL_lst, FD.gCutL_fls, FD.frzD_int, FD.frzD_bl, FD.frzD_str, FD.frzD_non, FD.frzD_nil, FD.frzD_lst, FD.frzD_fls, FD.outS_nx, FD.outS_rt, FD.outS_exc, FD.runD_eq, FD.Out.bind_ok, FD.Out.bind_exc, FD.Out.bind_bad, FD.stE_ok, FD.stE_exc, FD.stE_bad, FD.andThen_nx, FD.andThen_bk, FD.andThen_ct, FD.andThen_rt, FD.andThen_exc, FD.andThen_bad, FD.ofO_some, FD.ofO_none, FD.Lo.d_sh, FD.Lo.d_ol, FD.Lo.d_od, FD.frz_nil, FD.frz_cons, FD.frz1_0, FD.frz1_n, FD.frz1_s, FD.uName_ap, FD.uTup_ap, FD.uCons_ap, FD.uNil_ap, FD.turn_nx, FD.turn_ct, FD.turn_bk, FD.turn_rt, FD.turn_exc, FD.forD_nil, FD.forD_n, FD.atI_0, FD.atI_1, FD.atI_2, FD.atI_3, FD.unset_rt, FD.unset_nx, FD.unset_bk, FD.unset_ct, Option.bind_some, Option.map_some, FD.gI_int, FD.gI0_int, FD.cI_int, FD.gAdd_int, FD.gNeg_int, FD.eqD_int, FD.eqD_str, FD.eqD_bl, FD.eqD_non, FD.neg2_eq, FD.blD_bl, FD.truD_non, FD.truD_bl, FD.truD_int, FD.truD_tup, FD.truD_lst, FD.truD_fls, FD.truD_dic, FD.Dt.seq_tup, FD.Dt.seq_lst, FD.Dt.seq_fls, FD.gLen_tup, FD.gLen_lst, FD.gLen_fls, FD.gInt_int, FD.gInt_bl, FD.gAbs_int, FD.gGcd_int, FD.gIntA_int, FD.gIntA_bl, FD.gIx_tup, FD.gIx_lst, FD.gIx_fls, FD.isi_int_int, FD.isi_int_bool, FD.isi_bool_int, FD.isi_bool_bool, FD.isi_tup, FD.isi_lst, List.map_cons, List.map_nil, List.length_cons, List.length_nil, List.cons_append, List.nil_append, List.set_cons_zero, List.set_cons_succ, List.getElem?_cons_zero, List.getElem?_cons_succ, Nat.reduceAdd, Nat.reduceSub, Nat.zero_add, Nat.sub_self, List.replicate_zero, List.replicate_succ, Nat.reduceLeDiff, if_true, if_false, Bool.false_eq_true, Bool.not_true, Bool.not_false, decide_eq_true_eq, pt, tr]
end
end Lk01

set_option exponentiation.threshold 4000
namespace Lk01
open PySem L2 FD SX TL
variable {K : PySem.W.Frag} {cs : Cs}
theorem split_S (l : List Nat) : Txt.split (S l) (S [47]) = (spl [47] 0 [] l).map S := by
  apply map_tl_inj
  rw [split_spl _ _ (by decide) (kind_ok (by simp [S])), map_S_tl]
theorem spl_no {l : List Nat} (h : 47 ∉ l) : spl [47] 0 [] l = [l] := spl_last1 (S := []) (acc := []) h
theorem spl_one {p q : List Nat} (h : 47 ∉ p) : spl [47] 0 [] (p ++ 47 :: q) = p :: spl [47] 0 [] q := spl_part1 (S := []) (acc := []) (rest := q) h
theorem g_split {l : List Nat} (hl : l.length ≤ 50000) : gSplit (S l) (.str (S [47])) = some ((spl [47] 0 [] l).map fun x => Dt.str (S x)) := by
  show (if (S [47]).length ≠ 0 ∧ (S l).length + 2 ≤ 16777216 then some ((Txt.split (S l) (S [47])).map Dt.str) else none) = _
  rw [if_pos ⟨by decide, by rw [S_len]; omega⟩, split_S, List.map_map]
  rfl
/-- t: a dash or none, then rest -/
structure Cut (t : List Nat) (neg : Bool) (rest : List Nat) : Prop where
  eq : t = if neg = true then 45 :: rest else rest
  hd : neg = false → rest.take 1 ≠ [45]
theorem cut_ex (t : List Nat) : ∃ neg rest, Cut t neg rest := by
  cases t with
  | nil => exact ⟨false, [], rfl, fun _ => by simp⟩
  | cons c r =>
    by_cases h : c = 45
    · subst h
      exact ⟨true, r, rfl, fun z => by cases z⟩
    · exact ⟨false, c :: r, rfl, fun _ z => h (by injection z)⟩
/-- what the reader of the law does behind its parts -/
noncomputable def bLaw2 (K : PySem.W.Frag) (cs : Cs) : FD.Env → SOut :=
    (sSeq (sSet 4 (eCallR (m__law_digits K cs) (aCons (e2 (eVar 3) (eC (.int 0)) gIx) aNil)) [])
    (sSeq (sIf (tOrD (t2 (eB gLen (aCons (eVar 3) aNil)) (eC (.int 2)) (cI fun i j => decide (j < i))) (tOrD (t2 (eVar 4) (eC (.int 0)) (cI fun i j => decide (i < j))) (tAndD (t1 (eVar 1) truD) (t2 (eVar 4) (eC (.int 0)) eqD)))) (sRet (eL (lLst aNil))) sNext)
    (sSeq (sSet 5 (eC (.int 1)) [])
    (sSeq (sIf (t2 (eB gLen (aCons (eVar 3) aNil)) (eC (.int 2)) eqD) (sSeq (sSet 5 (eCallR (m__law_digits K cs) (aCons (e2 (eVar 3) (eC (.int 1)) gIx) aNil)) [])
    (sIf (tOrD (t2 (eVar 5) (eC (.int 2)) (cI fun i j => decide (i < j))) (t2 (eCallR (m__law_shared K cs) (aCons (eVar 4) (aCons (eVar 5) aNil))) (eC (.int 1)) neD)) (sRet (eL (lLst aNil))) sNext)) sNext)
    (sSeq (sIf (t1 (eVar 1) truD) (sSet 4 (e1 (eVar 4) gNeg) [4]) sNext)
    (sRet (eL (lLst (aCons (eVar 4) (aCons (eVar 5) aNil))))))))))
theorem lread_eq : b__law_read K cs = sSeq (sSet 1 (eT (t2 (eCut (eVar 0) oNone (oInt (eC (.int 1)))) (eC (.str "-")) eqD)) []) (sSeq (sSet 2 (eVar 0) [0]) (sSeq (sIf (t1 (eVar 1) truD) (sSet 2 (eCut (eVar 0) (oInt (eC (.int 1))) oNone) [0]) sNext)
    (sSeq (sSetL 3 (lM1 (eVar 2) (eC (.str "/")) gSplit) []) (bLaw2 K cs)))) := rfl
theorem lread {t rest : List Nat} {neg : Bool} (c : Cut t neg rest) (hl : t.length ≤ 50000) : ∃ x2 : Option Lo, m__law_read K cs [.str (S t)] = outS (bLaw2 K cs [some (.sh (.str (S t))), some (.sh (.bl neg)), x2, some (.ol ((spl [47] 0 [] rest).map fun x => Dt.str (S x))), none, none]) := by
  unfold m__law_read argN
  rw [lread_eq]
  have c1 : gCutA (.str (S t)) none (some 1) = some (.str (S (t.take 1))) := by
    show (if (S t).length ≤ 16777216 then some (Dt.str (Txt.slice (S t) none (some 1))) else none) = _
    rw [if_pos (by rw [S_len]; omega), slice_to (by decide)]
    rfl
  have c2 : gCutA (.str (S t)) (some 1) none = some (.str (S (t.drop 1))) := by
    show (if (S t).length ≤ 16777216 then some (Dt.str (Txt.slice (S t) (some 1) none)) else none) = _
    rw [if_pos (by rw [S_len]; omega), slice_from (by decide)]
    rfl
  cases neg with
  | true =>
    have et : t = 45 :: rest := c.eq
    have e1 : ((S (t.take 1) : Str) == S [45]) = true := by rw [et]; exact beq_self_eq_true _
    have e2 : t.drop 1 = rest := by rw [et]; rfl
    have hr : rest.length ≤ 50000 := by rw [et] at hl; simp only [List.length_cons] at hl; omega
    have m : ∀ (x0 x1 x3 x4 x5 : Option Lo), lM1 (eVar 2) (eC (.str (S [47]))) gSplit [x0, x1, some (.sh (.str (S rest))), x3, x4, x5] = .ok ((spl [47] 0 [] rest).map fun x => Dt.str (S x)) := by
      intro x0 x1 x3 x4 x5
      unfold lM1
      simp only [FD.sSeq_ap, FD.sNext_ap, FD.sBrk_ap, FD.sCont_ap, FD.sIf_ap, FD.sSet_ap, FD.sSetL_ap, FD.sDrop_ap, FD.sRet_ap, FD.sRetN_ap, FD.sFor_ap, FD.sAsg_ap, FD.sRaise_ap, FD.sAppend_ap, FD.sSetIx_ap, FD.eC_ap, FD.eVar_0, FD.eVar_s, FD.e1_ap, FD.e2_ap, FD.t1_ap, FD.t2_ap, FD.eT_ap, FD.tAnd_ap, FD.tOr_ap, FD.tNot_ap, FD.eIf_ap, FD.aNil_ap, FD.aCons_ap, FD.eTup_ap, FD.lLst_ap, FD.eL_ap, FD.eB_ap, FD.eCallR_ap, FD.eAnd_ap, FD.eOr_ap, FD.eNot_ap, FD.eChain_ap, FD.oSeq_ap, FD.oRange_ap, FD.oNone_ap, FD.oInt_ap, FD.lCut_ap, FD.gCutL_lst, FD.gCutL_fls, FD.frzD_int, FD.frzD_bl, FD.frzD_str, FD.frzD_non, FD.frzD_nil, FD.frzD_lst, FD.frzD_fls, FD.outS_nx, FD.outS_rt, FD.outS_exc, FD.runD_eq, FD.Out.bind_ok, FD.Out.bind_exc, FD.Out.bind_bad, FD.stE_ok, FD.stE_exc, FD.stE_bad, FD.andThen_nx, FD.andThen_bk, FD.andThen_ct, FD.andThen_rt, FD.andThen_exc, FD.andThen_bad, FD.ofO_some, FD.ofO_none, FD.Lo.d_sh, FD.Lo.d_ol, FD.Lo.d_od, FD.frz_nil, FD.frz_cons, FD.frz1_0, FD.frz1_n, FD.frz1_s, FD.uName_ap, FD.uTup_ap, FD.uCons_ap, FD.uNil_ap, FD.turn_nx, FD.turn_ct, FD.turn_bk, FD.turn_rt, FD.turn_exc, FD.forD_nil, FD.forD_n, FD.atI_0, FD.atI_1, FD.atI_2, FD.atI_3, FD.unset_rt, FD.unset_nx, FD.unset_bk, FD.unset_ct, Option.bind_some, Option.map_some, FD.gI_int, FD.gI0_int, FD.cI_int, FD.gAdd_int, FD.gNeg_int, FD.eqD_int, FD.eqD_str, FD.eqD_bl, FD.eqD_non, FD.neg2_eq, FD.blD_bl, FD.truD_non, FD.truD_bl, FD.truD_int, FD.truD_tup, FD.truD_lst, FD.truD_fls, FD.truD_dic, FD.Dt.seq_tup, FD.Dt.seq_lst, FD.Dt.seq_fls, FD.gLen_tup, FD.gLen_lst, FD.gLen_fls, FD.gInt_int, FD.gInt_bl, FD.gAbs_int, FD.gGcd_int, FD.gIntA_int, FD.gIntA_bl, FD.gIx_tup, FD.gIx_lst, FD.gIx_fls, FD.isi_int_int, FD.isi_int_bool, FD.isi_bool_int, FD.isi_bool_bool, FD.isi_tup, FD.isi_lst, List.map_cons, List.map_nil, List.length_cons, List.length_nil, List.cons_append, List.nil_append, List.set_cons_zero, List.set_cons_succ, List.getElem?_cons_zero, List.getElem?_cons_succ, Nat.reduceAdd, Nat.reduceSub, Nat.zero_add, Nat.sub_self, List.replicate_zero, List.replicate_succ, Nat.reduceLeDiff, if_true, if_false, Bool.false_eq_true, Bool.not_true, Bool.not_false, decide_eq_true_eq, g_split hr]
    rw [e2] at c2
    refine ⟨some (.sh (.str (S rest))), ?_⟩
    simp only [FD.sSeq_ap, FD.sNext_ap, FD.sBrk_ap, FD.sCont_ap, FD.sIf_ap, FD.sSet_ap, FD.sSetL_ap, FD.sDrop_ap, FD.sRet_ap, FD.sRetN_ap, FD.sFor_ap, FD.sAsg_ap, FD.sRaise_ap, FD.sAppend_ap, FD.sSetIx_ap, FD.eC_ap, FD.eVar_0, FD.eVar_s, FD.e1_ap, FD.e2_ap, FD.t1_ap, FD.t2_ap, FD.eT_ap, FD.tAnd_ap, FD.tOr_ap, FD.tNot_ap, FD.eIf_ap, FD.aNil_ap, FD.aCons_ap, FD.eTup_ap, FD.lLst_ap, FD.eL_ap, FD.eB_ap, FD.eCallR_ap, FD.eAnd_ap, FD.eOr_ap, FD.eNot_ap, FD.eChain_ap, FD.oSeq_ap, FD.oRange_ap, FD.oNone_ap, FD.oInt_ap, FD.lCut_ap, FD.gCutL_lst, FD.gCutL_fls, FD.frzD_int, FD.frzD_bl, FD.frzD_str, FD.frzD_non, FD.frzD_nil, FD.frzD_lst, FD.frzD_fls, FD.outS_nx, FD.outS_rt, FD.outS_exc, FD.runD_eq, FD.Out.bind_ok, FD.Out.bind_exc, FD.Out.bind_bad, FD.stE_ok, FD.stE_exc, FD.stE_bad, FD.andThen_nx, FD.andThen_bk, FD.andThen_ct, FD.andThen_rt, FD.andThen_exc, FD.andThen_bad, FD.ofO_some, FD.ofO_none, FD.Lo.d_sh, FD.Lo.d_ol, FD.Lo.d_od, FD.frz_nil, FD.frz_cons, FD.frz1_0, FD.frz1_n, FD.frz1_s, FD.uName_ap, FD.uTup_ap, FD.uCons_ap, FD.uNil_ap, FD.turn_nx, FD.turn_ct, FD.turn_bk, FD.turn_rt, FD.turn_exc, FD.forD_nil, FD.forD_n, FD.atI_0, FD.atI_1, FD.atI_2, FD.atI_3, FD.unset_rt, FD.unset_nx, FD.unset_bk, FD.unset_ct, Option.bind_some, Option.map_some, FD.gI_int, FD.gI0_int, FD.cI_int, FD.gAdd_int, FD.gNeg_int, FD.eqD_int, FD.eqD_str, FD.eqD_bl, FD.eqD_non, FD.neg2_eq, FD.blD_bl, FD.truD_non, FD.truD_bl, FD.truD_int, FD.truD_tup, FD.truD_lst, FD.truD_fls, FD.truD_dic, FD.Dt.seq_tup, FD.Dt.seq_lst, FD.Dt.seq_fls, FD.gLen_tup, FD.gLen_lst, FD.gLen_fls, FD.gInt_int, FD.gInt_bl, FD.gAbs_int, FD.gGcd_int, FD.gIntA_int, FD.gIntA_bl, FD.gIx_tup, FD.gIx_lst, FD.gIx_fls, FD.isi_int_int, FD.isi_int_bool, FD.isi_bool_int, FD.isi_bool_bool, FD.isi_tup, FD.isi_lst, List.map_cons, List.map_nil, List.length_cons, List.length_nil, List.cons_append, List.nil_append, List.set_cons_zero, List.set_cons_succ, List.getElem?_cons_zero, List.getElem?_cons_succ, Nat.reduceAdd, Nat.reduceSub, Nat.zero_add, Nat.sub_self, List.replicate_zero, List.replicate_succ, Nat.reduceLeDiff, if_true, if_false, Bool.false_eq_true, Bool.not_true, Bool.not_false, decide_eq_true_eq, eCut_ap, str_dash, str_slash, c1, c2, e1, m]
  | false =>
    have et : t = rest := c.eq
    subst et
    have e1 : ((S (t.take 1) : Str) == S [45]) = false := by rw [S_beq]; simpa using c.hd rfl
    have m : ∀ (x0 x1 x3 x4 x5 : Option Lo), lM1 (eVar 2) (eC (.str (S [47]))) gSplit [x0, x1, some (.sh (.str (S t))), x3, x4, x5] = .ok ((spl [47] 0 [] t).map fun x => Dt.str (S x)) := by
      intro x0 x1 x3 x4 x5
      unfold lM1
      simp only [FD.sSeq_ap, FD.sNext_ap, FD.sBrk_ap, FD.sCont_ap, FD.sIf_ap, FD.sSet_ap, FD.sSetL_ap, FD.sDrop_ap, FD.sRet_ap, FD.sRetN_ap, FD.sFor_ap, FD.sAsg_ap, FD.sRaise_ap, FD.sAppend_ap, FD.sSetIx_ap, FD.eC_ap, FD.eVar_0, FD.eVar_s, FD.e1_ap, FD.e2_ap, FD.t1_ap, FD.t2_ap, FD.eT_ap, FD.tAnd_ap, FD.tOr_ap, FD.tNot_ap, FD.eIf_ap, FD.aNil_ap, FD.aCons_ap, FD.eTup_ap, FD.lLst_ap, FD.eL_ap, FD.eB_ap, FD.eCallR_ap, FD.eAnd_ap, FD.eOr_ap, FD.eNot_ap, FD.eChain_ap, FD.oSeq_ap, FD.oRange_ap, FD.oNone_ap, FD.oInt_ap, FD.lCut_ap, FD.gCutL_lst, FD.gCutL_fls, FD.frzD_int, FD.frzD_bl, FD.frzD_str, FD.frzD_non, FD.frzD_nil, FD.frzD_lst, FD.frzD_fls, FD.outS_nx, FD.outS_rt, FD.outS_exc, FD.runD_eq, FD.Out.bind_ok, FD.Out.bind_exc, FD.Out.bind_bad, FD.stE_ok, FD.stE_exc, FD.stE_bad, FD.andThen_nx, FD.andThen_bk, FD.andThen_ct, FD.andThen_rt, FD.andThen_exc, FD.andThen_bad, FD.ofO_some, FD.ofO_none, FD.Lo.d_sh, FD.Lo.d_ol, FD.Lo.d_od, FD.frz_nil, FD.frz_cons, FD.frz1_0, FD.frz1_n, FD.frz1_s, FD.uName_ap, FD.uTup_ap, FD.uCons_ap, FD.uNil_ap, FD.turn_nx, FD.turn_ct, FD.turn_bk, FD.turn_rt, FD.turn_exc, FD.forD_nil, FD.forD_n, FD.atI_0, FD.atI_1, FD.atI_2, FD.atI_3, FD.unset_rt, FD.unset_nx, FD.unset_bk, FD.unset_ct, Option.bind_some, Option.map_some, FD.gI_int, FD.gI0_int, FD.cI_int, FD.gAdd_int, FD.gNeg_int, FD.eqD_int, FD.eqD_str, FD.eqD_bl, FD.eqD_non, FD.neg2_eq, FD.blD_bl, FD.truD_non, FD.truD_bl, FD.truD_int, FD.truD_tup, FD.truD_lst, FD.truD_fls, FD.truD_dic, FD.Dt.seq_tup, FD.Dt.seq_lst, FD.Dt.seq_fls, FD.gLen_tup, FD.gLen_lst, FD.gLen_fls, FD.gInt_int, FD.gInt_bl, FD.gAbs_int, FD.gGcd_int, FD.gIntA_int, FD.gIntA_bl, FD.gIx_tup, FD.gIx_lst, FD.gIx_fls, FD.isi_int_int, FD.isi_int_bool, FD.isi_bool_int, FD.isi_bool_bool, FD.isi_tup, FD.isi_lst, List.map_cons, List.map_nil, List.length_cons, List.length_nil, List.cons_append, List.nil_append, List.set_cons_zero, List.set_cons_succ, List.getElem?_cons_zero, List.getElem?_cons_succ, Nat.reduceAdd, Nat.reduceSub, Nat.zero_add, Nat.sub_self, List.replicate_zero, List.replicate_succ, Nat.reduceLeDiff, if_true, if_false, Bool.false_eq_true, Bool.not_true, Bool.not_false, decide_eq_true_eq, g_split hl]
    refine ⟨some (.sh (.str (S t))), ?_⟩
    simp only [FD.sSeq_ap, FD.sNext_ap, FD.sBrk_ap, FD.sCont_ap, FD.sIf_ap, FD.sSet_ap, FD.sSetL_ap, FD.sDrop_ap, FD.sRet_ap, FD.sRetN_ap, FD.sFor_ap, FD.sAsg_ap, FD.sRaise_ap, FD.sAppend_ap, FD.sSetIx_ap, FD.eC_ap, FD.eVar_0, FD.eVar_s, FD.e1_ap, FD.e2_ap, FD.t1_ap, FD.t2_ap, FD.eT_ap, FD.tAnd_ap, FD.tOr_ap, FD.tNot_ap, FD.eIf_ap, FD.aNil_ap, FD.aCons_ap, FD.eTup_ap, FD.lLst_ap, FD.eL_ap, FD.eB_ap, FD.eCallR_ap, FD.eAnd_ap, FD.eOr_ap, FD.eNot_ap, FD.eChain_ap, FD.oSeq_ap, FD.oRange_ap, FD.oNone_ap, FD.oInt_ap, FD.lCut_ap, FD.gCutL_lst, FD.gCutL_fls, FD.frzD_int, FD.frzD_bl, FD.frzD_str, FD.frzD_non, FD.frzD_nil, FD.frzD_lst, FD.frzD_fls, FD.outS_nx, FD.outS_rt, FD.outS_exc, FD.runD_eq, FD.Out.bind_ok, FD.Out.bind_exc, FD.Out.bind_bad, FD.stE_ok, FD.stE_exc, FD.stE_bad, FD.andThen_nx, FD.andThen_bk, FD.andThen_ct, FD.andThen_rt, FD.andThen_exc, FD.andThen_bad, FD.ofO_some, FD.ofO_none, FD.Lo.d_sh, FD.Lo.d_ol, FD.Lo.d_od, FD.frz_nil, FD.frz_cons, FD.frz1_0, FD.frz1_n, FD.frz1_s, FD.uName_ap, FD.uTup_ap, FD.uCons_ap, FD.uNil_ap, FD.turn_nx, FD.turn_ct, FD.turn_bk, FD.turn_rt, FD.turn_exc, FD.forD_nil, FD.forD_n, FD.atI_0, FD.atI_1, FD.atI_2, FD.atI_3, FD.unset_rt, FD.unset_nx, FD.unset_bk, FD.unset_ct, Option.bind_some, Option.map_some, FD.gI_int, FD.gI0_int, FD.cI_int, FD.gAdd_int, FD.gNeg_int, FD.eqD_int, FD.eqD_str, FD.eqD_bl, FD.eqD_non, FD.neg2_eq, FD.blD_bl, FD.truD_non, FD.truD_bl, FD.truD_int, FD.truD_tup, FD.truD_lst, FD.truD_fls, FD.truD_dic, FD.Dt.seq_tup, FD.Dt.seq_lst, FD.Dt.seq_fls, FD.gLen_tup, FD.gLen_lst, FD.gLen_fls, FD.gInt_int, FD.gInt_bl, FD.gAbs_int, FD.gGcd_int, FD.gIntA_int, FD.gIntA_bl, FD.gIx_tup, FD.gIx_lst, FD.gIx_fls, FD.isi_int_int, FD.isi_int_bool, FD.isi_bool_int, FD.isi_bool_bool, FD.isi_tup, FD.isi_lst, List.map_cons, List.map_nil, List.length_cons, List.length_nil, List.cons_append, List.nil_append, List.set_cons_zero, List.set_cons_succ, List.getElem?_cons_zero, List.getElem?_cons_succ, Nat.reduceAdd, Nat.reduceSub, Nat.zero_add, Nat.sub_self, List.replicate_zero, List.replicate_succ, Nat.reduceLeDiff, if_true, if_false, Bool.false_eq_true, Bool.not_true, Bool.not_false, decide_eq_true_eq, eCut_ap, str_dash, str_slash, c1, c2, e1, m]
/-! the three kinds of rests -/
section
variable {x0 x2 : Option Lo} {neg : Bool}
theorem law_three {p q r : List Nat} {rs : List (List Nat)} (hp : p.length ≤ 50000) : outS (bLaw2 K cs [x0, some (.sh (.bl neg)), x2, some (.ol ((p :: q :: r :: rs).map fun x => Dt.str (S x))), none, none]) = .ok (.lst []) := by
  unfold bLaw2
  obtain ⟨z, hz⟩ : ∃ z : Int, m__law_digits K cs [.str (S p)] = .ok (.int z) := by
    by_cases h : Can p
    · exact ⟨_, (e_law_digits (by omega)).1 h⟩
    · exact ⟨_, (e_law_digits (by omega)).2 h⟩
  have h2 : (2 : Int) < (((rs.map fun x => Dt.str (S x)).length + 1 + 1 + 1 : Nat) : Int) := by omega
  simp only [FD.sSeq_ap, FD.sNext_ap, FD.sBrk_ap, FD.sCont_ap, FD.sIf_ap, FD.sSet_ap, FD.sSetL_ap, FD.sDrop_ap, FD.sRet_ap, FD.sRetN_ap, FD.sFor_ap, FD.sAsg_ap, FD.sRaise_ap, FD.sAppend_ap, FD.sSetIx_ap, FD.eC_ap, FD.eVar_0, FD.eVar_s, FD.e1_ap, FD.e2_ap, FD.t1_ap, FD.t2_ap, FD.eT_ap, FD.tAnd_ap, FD.tOr_ap, FD.tNot_ap, FD.eIf_ap, FD.aNil_ap, FD.aCons_ap, FD.eTup_ap, FD.lLst_ap, FD.eL_ap, FD.eB_ap, FD.eCallR_ap, FD.eAnd_ap, FD.eOr_ap, FD.eNot_ap, FD.eChain_ap, FD.oSeq_ap, FD.oRange_ap, FD.oNone_ap, FD.oInt_ap, FD.lCut_ap, FD.gCutL_lst, FD.gCutL_fls, FD.frzD_int, FD.frzD_bl, FD.frzD_str, FD.frzD_non, FD.frzD_nil, FD.frzD_lst, FD.frzD_fls, FD.outS_nx, FD.outS_rt, FD.outS_exc, FD.runD_eq, FD.Out.bind_ok, FD.Out.bind_exc, FD.Out.bind_bad, FD.stE_ok, FD.stE_exc, FD.stE_bad, FD.andThen_nx, FD.andThen_bk, FD.andThen_ct, FD.andThen_rt, FD.andThen_exc, FD.andThen_bad, FD.ofO_some, FD.ofO_none, FD.Lo.d_sh, FD.Lo.d_ol, FD.Lo.d_od, FD.frz_nil, FD.frz_cons, FD.frz1_0, FD.frz1_n, FD.frz1_s, FD.uName_ap, FD.uTup_ap, FD.uCons_ap, FD.uNil_ap, FD.turn_nx, FD.turn_ct, FD.turn_bk, FD.turn_rt, FD.turn_exc, FD.forD_nil, FD.forD_n, FD.atI_0, FD.atI_1, FD.atI_2, FD.atI_3, FD.unset_rt, FD.unset_nx, FD.unset_bk, FD.unset_ct, Option.bind_some, Option.map_some, FD.gI_int, FD.gI0_int, FD.cI_int, FD.gAdd_int, FD.gNeg_int, FD.eqD_int, FD.eqD_str, FD.eqD_bl, FD.eqD_non, FD.neg2_eq, FD.blD_bl, FD.truD_non, FD.truD_bl, FD.truD_int, FD.truD_tup, FD.truD_lst, FD.truD_fls, FD.truD_dic, FD.Dt.seq_tup, FD.Dt.seq_lst, FD.Dt.seq_fls, FD.gLen_tup, FD.gLen_lst, FD.gLen_fls, FD.gInt_int, FD.gInt_bl, FD.gAbs_int, FD.gGcd_int, FD.gIntA_int, FD.gIntA_bl, FD.gIx_tup, FD.gIx_lst, FD.gIx_fls, FD.isi_int_int, FD.isi_int_bool, FD.isi_bool_int, FD.isi_bool_bool, FD.isi_tup, FD.isi_lst, List.map_cons, List.map_nil, List.length_cons, List.length_nil, List.cons_append, List.nil_append, List.set_cons_zero, List.set_cons_succ, List.getElem?_cons_zero, List.getElem?_cons_succ, Nat.reduceAdd, Nat.reduceSub, Nat.zero_add, Nat.sub_self, List.replicate_zero, List.replicate_succ, Nat.reduceLeDiff, if_true, if_false, Bool.false_eq_true, Bool.not_true, Bool.not_false, decide_eq_true_eq, hz, h2, decide_true, Nat.zero_le]
theorem law_bad {p : List Nat} {ps : List (List Nat)} (hp : p.length ≤ 50000) (h : ¬ Can p ∨ (neg = true ∧ NumText.digitsVal p = 0)) : outS (bLaw2 K cs [x0, some (.sh (.bl neg)), x2, some (.ol ((p :: ps).map fun x => Dt.str (S x))), none, none]) = .ok (.lst []) := by
  unfold bLaw2
  by_cases hc : Can p
  · have h' : neg = true ∧ NumText.digitsVal p = 0 := h.resolve_left fun z => z hc
    obtain ⟨rfl, hv⟩ := h'
    have e := (e_law_digits (K := K) (cs := cs) (by omega : p.length ≤ 100000)).1 hc
    rw [hv] at e
    by_cases h2 : (2 : Int) < (((ps.map fun x => Dt.str (S x)).length + 1 : Nat) : Int)
    · simp only [FD.sSeq_ap, FD.sNext_ap, FD.sBrk_ap, FD.sCont_ap, FD.sIf_ap, FD.sSet_ap, FD.sSetL_ap, FD.sDrop_ap, FD.sRet_ap, FD.sRetN_ap, FD.sFor_ap, FD.sAsg_ap, FD.sRaise_ap, FD.sAppend_ap, FD.sSetIx_ap, FD.eC_ap, FD.eVar_0, FD.eVar_s, FD.e1_ap, FD.e2_ap, FD.t1_ap, FD.t2_ap, FD.eT_ap, FD.tAnd_ap, FD.tOr_ap, FD.tNot_ap, FD.eIf_ap, FD.aNil_ap, FD.aCons_ap, FD.eTup_ap, FD.lLst_ap, FD.eL_ap, FD.eB_ap, FD.eCallR_ap, FD.eAnd_ap, FD.eOr_ap, FD.eNot_ap, FD.eChain_ap, FD.oSeq_ap, FD.oRange_ap, FD.oNone_ap, FD.oInt_ap, FD.lCut_ap, FD.gCutL_lst, FD.gCutL_fls, FD.frzD_int, FD.frzD_bl, FD.frzD_str, FD.frzD_non, FD.frzD_nil, FD.frzD_lst, FD.frzD_fls, FD.outS_nx, FD.outS_rt, FD.outS_exc, FD.runD_eq, FD.Out.bind_ok, FD.Out.bind_exc, FD.Out.bind_bad, FD.stE_ok, FD.stE_exc, FD.stE_bad, FD.andThen_nx, FD.andThen_bk, FD.andThen_ct, FD.andThen_rt, FD.andThen_exc, FD.andThen_bad, FD.ofO_some, FD.ofO_none, FD.Lo.d_sh, FD.Lo.d_ol, FD.Lo.d_od, FD.frz_nil, FD.frz_cons, FD.frz1_0, FD.frz1_n, FD.frz1_s, FD.uName_ap, FD.uTup_ap, FD.uCons_ap, FD.uNil_ap, FD.turn_nx, FD.turn_ct, FD.turn_bk, FD.turn_rt, FD.turn_exc, FD.forD_nil, FD.forD_n, FD.atI_0, FD.atI_1, FD.atI_2, FD.atI_3, FD.unset_rt, FD.unset_nx, FD.unset_bk, FD.unset_ct, Option.bind_some, Option.map_some, FD.gI_int, FD.gI0_int, FD.cI_int, FD.gAdd_int, FD.gNeg_int, FD.eqD_int, FD.eqD_str, FD.eqD_bl, FD.eqD_non, FD.neg2_eq, FD.blD_bl, FD.truD_non, FD.truD_bl, FD.truD_int, FD.truD_tup, FD.truD_lst, FD.truD_fls, FD.truD_dic, FD.Dt.seq_tup, FD.Dt.seq_lst, FD.Dt.seq_fls, FD.gLen_tup, FD.gLen_lst, FD.gLen_fls, FD.gInt_int, FD.gInt_bl, FD.gAbs_int, FD.gGcd_int, FD.gIntA_int, FD.gIntA_bl, FD.gIx_tup, FD.gIx_lst, FD.gIx_fls, FD.isi_int_int, FD.isi_int_bool, FD.isi_bool_int, FD.isi_bool_bool, FD.isi_tup, FD.isi_lst, List.map_cons, List.map_nil, List.length_cons, List.length_nil, List.cons_append, List.nil_append, List.set_cons_zero, List.set_cons_succ, List.getElem?_cons_zero, List.getElem?_cons_succ, Nat.reduceAdd, Nat.reduceSub, Nat.zero_add, Nat.sub_self, List.replicate_zero, List.replicate_succ, Nat.reduceLeDiff, if_true, if_false, Bool.false_eq_true, Bool.not_true, Bool.not_false, decide_eq_true_eq, e, h2, decide_true, Nat.zero_le]
    · have n0 : ¬ (((0 : Nat) : Int)) < 0 := by decide
      have e0 : ((((0 : Nat) : Int)) == 0) = true := rfl
      simp only [FD.sSeq_ap, FD.sNext_ap, FD.sBrk_ap, FD.sCont_ap, FD.sIf_ap, FD.sSet_ap, FD.sSetL_ap, FD.sDrop_ap, FD.sRet_ap, FD.sRetN_ap, FD.sFor_ap, FD.sAsg_ap, FD.sRaise_ap, FD.sAppend_ap, FD.sSetIx_ap, FD.eC_ap, FD.eVar_0, FD.eVar_s, FD.e1_ap, FD.e2_ap, FD.t1_ap, FD.t2_ap, FD.eT_ap, FD.tAnd_ap, FD.tOr_ap, FD.tNot_ap, FD.eIf_ap, FD.aNil_ap, FD.aCons_ap, FD.eTup_ap, FD.lLst_ap, FD.eL_ap, FD.eB_ap, FD.eCallR_ap, FD.eAnd_ap, FD.eOr_ap, FD.eNot_ap, FD.eChain_ap, FD.oSeq_ap, FD.oRange_ap, FD.oNone_ap, FD.oInt_ap, FD.lCut_ap, FD.gCutL_lst, FD.gCutL_fls, FD.frzD_int, FD.frzD_bl, FD.frzD_str, FD.frzD_non, FD.frzD_nil, FD.frzD_lst, FD.frzD_fls, FD.outS_nx, FD.outS_rt, FD.outS_exc, FD.runD_eq, FD.Out.bind_ok, FD.Out.bind_exc, FD.Out.bind_bad, FD.stE_ok, FD.stE_exc, FD.stE_bad, FD.andThen_nx, FD.andThen_bk, FD.andThen_ct, FD.andThen_rt, FD.andThen_exc, FD.andThen_bad, FD.ofO_some, FD.ofO_none, FD.Lo.d_sh, FD.Lo.d_ol, FD.Lo.d_od, FD.frz_nil, FD.frz_cons, FD.frz1_0, FD.frz1_n, FD.frz1_s, FD.uName_ap, FD.uTup_ap, FD.uCons_ap, FD.uNil_ap, FD.turn_nx, FD.turn_ct, FD.turn_bk, FD.turn_rt, FD.turn_exc, FD.forD_nil, FD.forD_n, FD.atI_0, FD.atI_1, FD.atI_2, FD.atI_3, FD.unset_rt, FD.unset_nx, FD.unset_bk, FD.unset_ct, Option.bind_some, Option.map_some, FD.gI_int, FD.gI0_int, FD.cI_int, FD.gAdd_int, FD.gNeg_int, FD.eqD_int, FD.eqD_str, FD.eqD_bl, FD.eqD_non, FD.neg2_eq, FD.blD_bl, FD.truD_non, FD.truD_bl, FD.truD_int, FD.truD_tup, FD.truD_lst, FD.truD_fls, FD.truD_dic, FD.Dt.seq_tup, FD.Dt.seq_lst, FD.Dt.seq_fls, FD.gLen_tup, FD.gLen_lst, FD.gLen_fls, FD.gInt_int, FD.gInt_bl, FD.gAbs_int, FD.gGcd_int, FD.gIntA_int, FD.gIntA_bl, FD.gIx_tup, FD.gIx_lst, FD.gIx_fls, FD.isi_int_int, FD.isi_int_bool, FD.isi_bool_int, FD.isi_bool_bool, FD.isi_tup, FD.isi_lst, List.map_cons, List.map_nil, List.length_cons, List.length_nil, List.cons_append, List.nil_append, List.set_cons_zero, List.set_cons_succ, List.getElem?_cons_zero, List.getElem?_cons_succ, Nat.reduceAdd, Nat.reduceSub, Nat.zero_add, Nat.sub_self, List.replicate_zero, List.replicate_succ, Nat.reduceLeDiff, if_true, if_false, Bool.false_eq_true, Bool.not_true, Bool.not_false, decide_eq_true_eq, e, h2, decide_false, n0, e0, Nat.zero_le]
  · have e := (e_law_digits (K := K) (cs := cs) (by omega : p.length ≤ 100000)).2 hc
    have n0 : (-1 : Int) < 0 := by decide
    by_cases h2 : (2 : Int) < (((ps.map fun x => Dt.str (S x)).length + 1 : Nat) : Int)
    · simp only [FD.sSeq_ap, FD.sNext_ap, FD.sBrk_ap, FD.sCont_ap, FD.sIf_ap, FD.sSet_ap, FD.sSetL_ap, FD.sDrop_ap, FD.sRet_ap, FD.sRetN_ap, FD.sFor_ap, FD.sAsg_ap, FD.sRaise_ap, FD.sAppend_ap, FD.sSetIx_ap, FD.eC_ap, FD.eVar_0, FD.eVar_s, FD.e1_ap, FD.e2_ap, FD.t1_ap, FD.t2_ap, FD.eT_ap, FD.tAnd_ap, FD.tOr_ap, FD.tNot_ap, FD.eIf_ap, FD.aNil_ap, FD.aCons_ap, FD.eTup_ap, FD.lLst_ap, FD.eL_ap, FD.eB_ap, FD.eCallR_ap, FD.eAnd_ap, FD.eOr_ap, FD.eNot_ap, FD.eChain_ap, FD.oSeq_ap, FD.oRange_ap, FD.oNone_ap, FD.oInt_ap, FD.lCut_ap, FD.gCutL_lst, FD.gCutL_fls, FD.frzD_int, FD.frzD_bl, FD.frzD_str, FD.frzD_non, FD.frzD_nil, FD.frzD_lst, FD.frzD_fls, FD.outS_nx, FD.outS_rt, FD.outS_exc, FD.runD_eq, FD.Out.bind_ok, FD.Out.bind_exc, FD.Out.bind_bad, FD.stE_ok, FD.stE_exc, FD.stE_bad, FD.andThen_nx, FD.andThen_bk, FD.andThen_ct, FD.andThen_rt, FD.andThen_exc, FD.andThen_bad, FD.ofO_some, FD.ofO_none, FD.Lo.d_sh, FD.Lo.d_ol, FD.Lo.d_od, FD.frz_nil, FD.frz_cons, FD.frz1_0, FD.frz1_n, FD.frz1_s, FD.uName_ap, FD.uTup_ap, FD.uCons_ap, FD.uNil_ap, FD.turn_nx, FD.turn_ct, FD.turn_bk, FD.turn_rt, FD.turn_exc, FD.forD_nil, FD.forD_n, FD.atI_0, FD.atI_1, FD.atI_2, FD.atI_3, FD.unset_rt, FD.unset_nx, FD.unset_bk, FD.unset_ct, Option.bind_some, Option.map_some, FD.gI_int, FD.gI0_int, FD.cI_int, FD.gAdd_int, FD.gNeg_int, FD.eqD_int, FD.eqD_str, FD.eqD_bl, FD.eqD_non, FD.neg2_eq, FD.blD_bl, FD.truD_non, FD.truD_bl, FD.truD_int, FD.truD_tup, FD.truD_lst, FD.truD_fls, FD.truD_dic, FD.Dt.seq_tup, FD.Dt.seq_lst, FD.Dt.seq_fls, FD.gLen_tup, FD.gLen_lst, FD.gLen_fls, FD.gInt_int, FD.gInt_bl, FD.gAbs_int, FD.gGcd_int, FD.gIntA_int, FD.gIntA_bl, FD.gIx_tup, FD.gIx_lst, FD.gIx_fls, FD.isi_int_int, FD.isi_int_bool, FD.isi_bool_int, FD.isi_bool_bool, FD.isi_tup, FD.isi_lst, List.map_cons, List.map_nil, List.length_cons, List.length_nil, List.cons_append, List.nil_append, List.set_cons_zero, List.set_cons_succ, List.getElem?_cons_zero, List.getElem?_cons_succ, Nat.reduceAdd, Nat.reduceSub, Nat.zero_add, Nat.sub_self, List.replicate_zero, List.replicate_succ, Nat.reduceLeDiff, if_true, if_false, Bool.false_eq_true, Bool.not_true, Bool.not_false, decide_eq_true_eq, e, h2, decide_true, Nat.zero_le]
    · simp only [FD.sSeq_ap, FD.sNext_ap, FD.sBrk_ap, FD.sCont_ap, FD.sIf_ap, FD.sSet_ap, FD.sSetL_ap, FD.sDrop_ap, FD.sRet_ap, FD.sRetN_ap, FD.sFor_ap, FD.sAsg_ap, FD.sRaise_ap, FD.sAppend_ap, FD.sSetIx_ap, FD.eC_ap, FD.eVar_0, FD.eVar_s, FD.e1_ap, FD.e2_ap, FD.t1_ap, FD.t2_ap, FD.eT_ap, FD.tAnd_ap, FD.tOr_ap, FD.tNot_ap, FD.eIf_ap, FD.aNil_ap, FD.aCons_ap, FD.eTup_ap, FD.lLst_ap, FD.eL_ap, FD.eB_ap, FD.eCallR_ap, FD.eAnd_ap, FD.eOr_ap, FD.eNot_ap, FD.eChain_ap, FD.oSeq_ap, FD.oRange_ap, FD.oNone_ap, FD.oInt_ap, FD.lCut_ap, FD.gCutL_lst, FD.gCutL_fls, FD.frzD_int, FD.frzD_bl, FD.frzD_str, FD.frzD_non, FD.frzD_nil, FD.frzD_lst, FD.frzD_fls, FD.outS_nx, FD.outS_rt, FD.outS_exc, FD.runD_eq, FD.Out.bind_ok, FD.Out.bind_exc, FD.Out.bind_bad, FD.stE_ok, FD.stE_exc, FD.stE_bad, FD.andThen_nx, FD.andThen_bk, FD.andThen_ct, FD.andThen_rt, FD.andThen_exc, FD.andThen_bad, FD.ofO_some, FD.ofO_none, FD.Lo.d_sh, FD.Lo.d_ol, FD.Lo.d_od, FD.frz_nil, FD.frz_cons, FD.frz1_0, FD.frz1_n, FD.frz1_s, FD.uName_ap, FD.uTup_ap, FD.uCons_ap, FD.uNil_ap, FD.turn_nx, FD.turn_ct, FD.turn_bk, FD.turn_rt, FD.turn_exc, FD.forD_nil, FD.forD_n, FD.atI_0, FD.atI_1, FD.atI_2, FD.atI_3, FD.unset_rt, FD.unset_nx, FD.unset_bk, FD.unset_ct, Option.bind_some, Option.map_some, FD.gI_int, FD.gI0_int, FD.cI_int, FD.gAdd_int, FD.gNeg_int, FD.eqD_int, FD.eqD_str, FD.eqD_bl, FD.eqD_non, FD.neg2_eq, FD.blD_bl, FD.truD_non, FD.truD_bl, FD.truD_int, FD.truD_tup, FD.truD_lst, FD.truD_fls, FD.truD_dic, FD.Dt.seq_tup, FD.Dt.seq_lst, FD.Dt.seq_fls, FD.gLen_tup, FD.gLen_lst, FD.gLen_fls, FD.gInt_int, FD.gInt_bl, FD.gAbs_int, FD.gGcd_int, FD.gIntA_int, FD.gIntA_bl, FD.gIx_tup, FD.gIx_lst, FD.gIx_fls, FD.isi_int_int, FD.isi_int_bool, FD.isi_bool_int, FD.isi_bool_bool, FD.isi_tup, FD.isi_lst, List.map_cons, List.map_nil, List.length_cons, List.length_nil, List.cons_append, List.nil_append, List.set_cons_zero, List.set_cons_succ, List.getElem?_cons_zero, List.getElem?_cons_succ, Nat.reduceAdd, Nat.reduceSub, Nat.zero_add, Nat.sub_self, List.replicate_zero, List.replicate_succ, Nat.reduceLeDiff, if_true, if_false, Bool.false_eq_true, Bool.not_true, Bool.not_false, decide_eq_true_eq, e, h2, decide_false, n0, decide_true, Nat.zero_le]
/-- the sign -/
def sgnI (neg : Bool) (n : Nat) : Int := if neg = true then -(n : Int) else n
theorem law_int {p : List Nat} (hp : p.length ≤ 50000) (hc : Can p) (h : ¬ (neg = true ∧ NumText.digitsVal p = 0)) : outS (bLaw2 K cs [x0, some (.sh (.bl neg)), x2, some (.ol ([p].map fun x => Dt.str (S x))), none, none]) = .ok (.lst [.int (sgnI neg (NumText.digitsVal p)), .int 1]) := by
  unfold bLaw2
  have e := (e_law_digits (K := K) (cs := cs) (by omega : p.length ≤ 100000)).1 hc
  have h2 : ¬ (2 : Int) < ((0 + 1 : Nat) : Int) := by decide
  have h3 : ((((0 + 1 : Nat) : Int)) == 2) = false := rfl
  have n0 : ¬ (((NumText.digitsVal p : Nat) : Int)) < 0 := by omega
  cases neg with
  | true =>
    have e0 : ((((NumText.digitsVal p : Nat) : Int)) == 0) = false := by
      have : ((NumText.digitsVal p : Nat) : Int) ≠ 0 := fun z => h ⟨rfl, by omega⟩
      simpa using this
    simp only [FD.sSeq_ap, FD.sNext_ap, FD.sBrk_ap, FD.sCont_ap, FD.sIf_ap, FD.sSet_ap, FD.sSetL_ap, FD.sDrop_ap, FD.sRet_ap, FD.sRetN_ap, FD.sFor_ap, FD.sAsg_ap, FD.sRaise_ap, FD.sAppend_ap, FD.sSetIx_ap, FD.eC_ap, FD.eVar_0, FD.eVar_s, FD.e1_ap, FD.e2_ap, FD.t1_ap, FD.t2_ap, FD.eT_ap, FD.tAnd_ap, FD.tOr_ap, FD.tNot_ap, FD.eIf_ap, FD.aNil_ap, FD.aCons_ap, FD.eTup_ap, FD.lLst_ap, FD.eL_ap, FD.eB_ap, FD.eCallR_ap, FD.eAnd_ap, FD.eOr_ap, FD.eNot_ap, FD.eChain_ap, FD.oSeq_ap, FD.oRange_ap, FD.oNone_ap, FD.oInt_ap, FD.lCut_ap, FD.gCutL_lst, FD.gCutL_fls, FD.frzD_int, FD.frzD_bl, FD.frzD_str, FD.frzD_non, FD.frzD_nil, FD.frzD_lst, FD.frzD_fls, FD.outS_nx, FD.outS_rt, FD.outS_exc, FD.runD_eq, FD.Out.bind_ok, FD.Out.bind_exc, FD.Out.bind_bad, FD.stE_ok, FD.stE_exc, FD.stE_bad, FD.andThen_nx, FD.andThen_bk, FD.andThen_ct, FD.andThen_rt, FD.andThen_exc, FD.andThen_bad, FD.ofO_some, FD.ofO_none, FD.Lo.d_sh, FD.Lo.d_ol, FD.Lo.d_od, FD.frz_nil, FD.frz_cons, FD.frz1_0, FD.frz1_n, FD.frz1_s, FD.uName_ap, FD.uTup_ap, FD.uCons_ap, FD.uNil_ap, FD.turn_nx, FD.turn_ct, FD.turn_bk, FD.turn_rt, FD.turn_exc, FD.forD_nil, FD.forD_n, FD.atI_0, FD.atI_1, FD.atI_2, FD.atI_3, FD.unset_rt, FD.unset_nx, FD.unset_bk, FD.unset_ct, Option.bind_some, Option.map_some, FD.gI_int, FD.gI0_int, FD.cI_int, FD.gAdd_int, FD.gNeg_int, FD.eqD_int, FD.eqD_str, FD.eqD_bl, FD.eqD_non, FD.neg2_eq, FD.blD_bl, FD.truD_non, FD.truD_bl, FD.truD_int, FD.truD_tup, FD.truD_lst, FD.truD_fls, FD.truD_dic, FD.Dt.seq_tup, FD.Dt.seq_lst, FD.Dt.seq_fls, FD.gLen_tup, FD.gLen_lst, FD.gLen_fls, FD.gInt_int, FD.gInt_bl, FD.gAbs_int, FD.gGcd_int, FD.gIntA_int, FD.gIntA_bl, FD.gIx_tup, FD.gIx_lst, FD.gIx_fls, FD.isi_int_int, FD.isi_int_bool, FD.isi_bool_int, FD.isi_bool_bool, FD.isi_tup, FD.isi_lst, List.map_cons, List.map_nil, List.length_cons, List.length_nil, List.cons_append, List.nil_append, List.set_cons_zero, List.set_cons_succ, List.getElem?_cons_zero, List.getElem?_cons_succ, Nat.reduceAdd, Nat.reduceSub, Nat.zero_add, Nat.sub_self, List.replicate_zero, List.replicate_succ, Nat.reduceLeDiff, if_true, if_false, Bool.false_eq_true, Bool.not_true, Bool.not_false, decide_eq_true_eq, e, h2, h3, decide_false, n0, e0, sgnI, Nat.reduceLeDiff]
  | false => simp only [FD.sSeq_ap, FD.sNext_ap, FD.sBrk_ap, FD.sCont_ap, FD.sIf_ap, FD.sSet_ap, FD.sSetL_ap, FD.sDrop_ap, FD.sRet_ap, FD.sRetN_ap, FD.sFor_ap, FD.sAsg_ap, FD.sRaise_ap, FD.sAppend_ap, FD.sSetIx_ap, FD.eC_ap, FD.eVar_0, FD.eVar_s, FD.e1_ap, FD.e2_ap, FD.t1_ap, FD.t2_ap, FD.eT_ap, FD.tAnd_ap, FD.tOr_ap, FD.tNot_ap, FD.eIf_ap, FD.aNil_ap, FD.aCons_ap, FD.eTup_ap, FD.lLst_ap, FD.eL_ap, FD.eB_ap, FD.eCallR_ap, FD.eAnd_ap, FD.eOr_ap, FD.eNot_ap, FD.eChain_ap, FD.oSeq_ap, FD.oRange_ap, FD.oNone_ap, FD.oInt_ap, FD.lCut_ap, FD.gCutL_lst, FD.gCutL_fls, FD.frzD_int, FD.frzD_bl, FD.frzD_str, FD.frzD_non, FD.frzD_nil, FD.frzD_lst, FD.frzD_fls, FD.outS_nx, FD.outS_rt, FD.outS_exc, FD.runD_eq, FD.Out.bind_ok, FD.Out.bind_exc, FD.Out.bind_bad, FD.stE_ok, FD.stE_exc, FD.stE_bad, FD.andThen_nx, FD.andThen_bk, FD.andThen_ct, FD.andThen_rt, FD.andThen_exc, FD.andThen_bad, FD.ofO_some, FD.ofO_none, FD.Lo.d_sh, FD.Lo.d_ol, FD.Lo.d_od, FD.frz_nil, FD.frz_cons, FD.frz1_0, FD.frz1_n, FD.frz1_s, FD.uName_ap, FD.uTup_ap, FD.uCons_ap, FD.uNil_ap, FD.turn_nx, FD.turn_ct, FD.turn_bk, FD.turn_rt, FD.turn_exc, FD.forD_nil, FD.forD_n, FD.atI_0, FD.atI_1, FD.atI_2, FD.atI_3, FD.unset_rt, FD.unset_nx, FD.unset_bk, FD.unset_ct, Option.bind_some, Option.map_some, FD.gI_int, FD.gI0_int, FD.cI_int, FD.gAdd_int, FD.gNeg_int, FD.eqD_int, FD.eqD_str, FD.eqD_bl, FD.eqD_non, FD.neg2_eq, FD.blD_bl, FD.truD_non, FD.truD_bl, FD.truD_int, FD.truD_tup, FD.truD_lst, FD.truD_fls, FD.truD_dic, FD.Dt.seq_tup, FD.Dt.seq_lst, FD.Dt.seq_fls, FD.gLen_tup, FD.gLen_lst, FD.gLen_fls, FD.gInt_int, FD.gInt_bl, FD.gAbs_int, FD.gGcd_int, FD.gIntA_int, FD.gIntA_bl, FD.gIx_tup, FD.gIx_lst, FD.gIx_fls, FD.isi_int_int, FD.isi_int_bool, FD.isi_bool_int, FD.isi_bool_bool, FD.isi_tup, FD.isi_lst, List.map_cons, List.map_nil, List.length_cons, List.length_nil, List.cons_append, List.nil_append, List.set_cons_zero, List.set_cons_succ, List.getElem?_cons_zero, List.getElem?_cons_succ, Nat.reduceAdd, Nat.reduceSub, Nat.zero_add, Nat.sub_self, List.replicate_zero, List.replicate_succ, Nat.reduceLeDiff, if_true, if_false, Bool.false_eq_true, Bool.not_true, Bool.not_false, decide_eq_true_eq, e, h2, h3, decide_false, n0, sgnI, Nat.reduceLeDiff]
end
end Lk01

set_option exponentiation.threshold 4000
namespace Lk01
open PySem L2 FD SX TL
variable {K : PySem.W.Frag} {cs : Cs}
theorem fold_lt : ∀ (w : List Nat) (a : Nat), NumText.AllDigits w → w.foldl (fun acc c => acc * 10 + (c - 48)) a < (a + 1) * 10 ^ w.length
  | [], a, _ => by simp
  | c :: w, a, h => by
    have hc := h.head
    have ih := fold_lt w (a * 10 + (c - 48)) h.tail
    rw [List.foldl_cons, List.length_cons, Nat.pow_succ]
    have : (a * 10 + (c - 48) + 1) * 10 ^ w.length ≤ (a + 1) * 10 * 10 ^ w.length := Nat.mul_le_mul_right _ (by omega)
    have e : (a + 1) * 10 * 10 ^ w.length = (a + 1) * (10 ^ w.length * 10) := by rw [Nat.mul_assoc, Nat.mul_comm 10]
    omega
theorem val_lt {w : List Nat} (h : Dig w) : NumText.digitsVal w < 10 ^ 40 := by
  have := fold_lt w 0 h.2.2
  have h2 : (10 : Nat) ^ w.length ≤ 10 ^ 40 := Nat.pow_le_pow_right (by decide) h.2.1
  unfold NumText.digitsVal
  omega
theorem bd40 {n : Nat} (h : n < 10 ^ 40) : Bd 290 (n : Int) := by
  unfold Bd
  rw [Int.natAbs_natCast]
  exact Nat.lt_trans h (by decide)
section
variable {x0 x2 : Option Lo} {neg : Bool}
theorem sgn_abs (neg : Bool) (n : Nat) : (sgnI neg n).natAbs = n := by
  unfold sgnI
  split <;> omega
theorem law_frac {p q : List Nat} (hp : p.length ≤ 50000) (hq : q.length ≤ 50000) (hc : Can p) (h : ¬ (neg = true ∧ NumText.digitsVal p = 0)) :
    ((Can q ∧ 2 ≤ NumText.digitsVal q ∧ Nat.gcd (NumText.digitsVal p) (NumText.digitsVal q) = 1) → outS (bLaw2 K cs [x0, some (.sh (.bl neg)), x2, some (.ol ([p, q].map fun x => Dt.str (S x))), none, none]) = .ok (.lst [.int (sgnI neg (NumText.digitsVal p)), .int (NumText.digitsVal q : Nat)])) ∧
    (¬ (Can q ∧ 2 ≤ NumText.digitsVal q ∧ Nat.gcd (NumText.digitsVal p) (NumText.digitsVal q) = 1) → outS (bLaw2 K cs [x0, some (.sh (.bl neg)), x2, some (.ol ([p, q].map fun x => Dt.str (S x))), none, none]) = .ok (.lst [])) := by
  unfold bLaw2
  have e := (e_law_digits (K := K) (cs := cs) (by omega : p.length ≤ 100000)).1 hc
  have h2 : ¬ (2 : Int) < ((0 + 1 + 1 : Nat) : Int) := by decide
  have h3 : ((((0 + 1 + 1 : Nat) : Int)) == 2) = true := rfl
  have n0 : ¬ (((NumText.digitsVal p : Nat) : Int)) < 0 := by omega
  have e0 : neg = true → ((((NumText.digitsVal p : Nat) : Int)) == 0) = false := fun hn => by
    have : ((NumText.digitsVal p : Nat) : Int) ≠ 0 := fun z => h ⟨hn, by omega⟩
    simpa using this
  have nd : ∀ i j : Int, neD (.int i) (.int j) = some (!(i == j)) := fun _ _ => rfl
  have z0 : (0 : Nat) ≤ 16777216 := Nat.zero_le _
  by_cases hcq : Can q
  · have eq := (e_law_digits (K := K) (cs := cs) (by omega : q.length ≤ 100000)).1 hcq
    have es := e_shared (K := K) (cs := cs) (a := ((NumText.digitsVal p : Nat) : Int)) (bd40 (val_lt hcq.1))
    rw [Int.natAbs_natCast, Int.natAbs_natCast] at es
    by_cases hd : 2 ≤ NumText.digitsVal q
    · have d2 : ¬ (((NumText.digitsVal q : Nat) : Int)) < 2 := by omega
      by_cases hg : Nat.gcd (NumText.digitsVal p) (NumText.digitsVal q) = 1
      · refine ⟨fun _ => ?_, fun z => absurd ⟨hcq, hd, hg⟩ z⟩
        have g1 : ((((Nat.gcd (NumText.digitsVal p) (NumText.digitsVal q) : Nat) : Int)) == 1) = true := by rw [hg]; rfl
        cases neg with
        | true => simp only [FD.sSeq_ap, FD.sNext_ap, FD.sBrk_ap, FD.sCont_ap, FD.sIf_ap, FD.sSet_ap, FD.sSetL_ap, FD.sDrop_ap, FD.sRet_ap, FD.sRetN_ap, FD.sFor_ap, FD.sAsg_ap, FD.sRaise_ap, FD.sAppend_ap, FD.sSetIx_ap, FD.eC_ap, FD.eVar_0, FD.eVar_s, FD.e1_ap, FD.e2_ap, FD.t1_ap, FD.t2_ap, FD.eT_ap, FD.tAnd_ap, FD.tOr_ap, FD.tNot_ap, FD.eIf_ap, FD.aNil_ap, FD.aCons_ap, FD.eTup_ap, FD.lLst_ap, FD.eL_ap, FD.eB_ap, FD.eCallR_ap, FD.eAnd_ap, FD.eOr_ap, FD.eNot_ap, FD.eChain_ap, FD.oSeq_ap, FD.oRange_ap, FD.oNone_ap, FD.oInt_ap, FD.lCut_ap, FD.gCutL_lst, FD.gCutL_fls, FD.frzD_int, FD.frzD_bl, FD.frzD_str, FD.frzD_non, FD.frzD_nil, FD.frzD_lst, FD.frzD_fls, FD.outS_nx, FD.outS_rt, FD.outS_exc, FD.runD_eq, FD.Out.bind_ok, FD.Out.bind_exc, FD.Out.bind_bad, FD.stE_ok, FD.stE_exc, FD.stE_bad, FD.andThen_nx, FD.andThen_bk, FD.andThen_ct, FD.andThen_rt, FD.andThen_exc, FD.andThen_bad, FD.ofO_some, FD.ofO_none, FD.Lo.d_sh, FD.Lo.d_ol, FD.Lo.d_od, FD.frz_nil, FD.frz_cons, FD.frz1_0, FD.frz1_n, FD.frz1_s, FD.uName_ap, FD.uTup_ap, FD.uCons_ap, FD.uNil_ap, FD.turn_nx, FD.turn_ct, FD.turn_bk, FD.turn_rt, FD.turn_exc, FD.forD_nil, FD.forD_n, FD.atI_0, FD.atI_1, FD.atI_2, FD.atI_3, FD.unset_rt, FD.unset_nx, FD.unset_bk, FD.unset_ct, Option.bind_some, Option.map_some, FD.gI_int, FD.gI0_int, FD.cI_int, FD.gAdd_int, FD.gNeg_int, FD.eqD_int, FD.eqD_str, FD.eqD_bl, FD.eqD_non, FD.neg2_eq, FD.blD_bl, FD.truD_non, FD.truD_bl, FD.truD_int, FD.truD_tup, FD.truD_lst, FD.truD_fls, FD.truD_dic, FD.Dt.seq_tup, FD.Dt.seq_lst, FD.Dt.seq_fls, FD.gLen_tup, FD.gLen_lst, FD.gLen_fls, FD.gInt_int, FD.gInt_bl, FD.gAbs_int, FD.gGcd_int, FD.gIntA_int, FD.gIntA_bl, FD.gIx_tup, FD.gIx_lst, FD.gIx_fls, FD.isi_int_int, FD.isi_int_bool, FD.isi_bool_int, FD.isi_bool_bool, FD.isi_tup, FD.isi_lst, List.map_cons, List.map_nil, List.length_cons, List.length_nil, List.cons_append, List.nil_append, List.set_cons_zero, List.set_cons_succ, List.getElem?_cons_zero, List.getElem?_cons_succ, Nat.reduceAdd, Nat.reduceSub, Nat.zero_add, Nat.sub_self, List.replicate_zero, List.replicate_succ, Nat.reduceLeDiff, if_true, if_false, Bool.false_eq_true, Bool.not_true, Bool.not_false, decide_eq_true_eq, e, h2, h3, decide_false, n0, e0 rfl, eq, d2, es, nd, g1, sgnI, Nat.reduceLeDiff]
        | false => simp only [FD.sSeq_ap, FD.sNext_ap, FD.sBrk_ap, FD.sCont_ap, FD.sIf_ap, FD.sSet_ap, FD.sSetL_ap, FD.sDrop_ap, FD.sRet_ap, FD.sRetN_ap, FD.sFor_ap, FD.sAsg_ap, FD.sRaise_ap, FD.sAppend_ap, FD.sSetIx_ap, FD.eC_ap, FD.eVar_0, FD.eVar_s, FD.e1_ap, FD.e2_ap, FD.t1_ap, FD.t2_ap, FD.eT_ap, FD.tAnd_ap, FD.tOr_ap, FD.tNot_ap, FD.eIf_ap, FD.aNil_ap, FD.aCons_ap, FD.eTup_ap, FD.lLst_ap, FD.eL_ap, FD.eB_ap, FD.eCallR_ap, FD.eAnd_ap, FD.eOr_ap, FD.eNot_ap, FD.eChain_ap, FD.oSeq_ap, FD.oRange_ap, FD.oNone_ap, FD.oInt_ap, FD.lCut_ap, FD.gCutL_lst, FD.gCutL_fls, FD.frzD_int, FD.frzD_bl, FD.frzD_str, FD.frzD_non, FD.frzD_nil, FD.frzD_lst, FD.frzD_fls, FD.outS_nx, FD.outS_rt, FD.outS_exc, FD.runD_eq, FD.Out.bind_ok, FD.Out.bind_exc, FD.Out.bind_bad, FD.stE_ok, FD.stE_exc, FD.stE_bad, FD.andThen_nx, FD.andThen_bk, FD.andThen_ct, FD.andThen_rt, FD.andThen_exc, FD.andThen_bad, FD.ofO_some, FD.ofO_none, FD.Lo.d_sh, FD.Lo.d_ol, FD.Lo.d_od, FD.frz_nil, FD.frz_cons, FD.frz1_0, FD.frz1_n, FD.frz1_s, FD.uName_ap, FD.uTup_ap, FD.uCons_ap, FD.uNil_ap, FD.turn_nx, FD.turn_ct, FD.turn_bk, FD.turn_rt, FD.turn_exc, FD.forD_nil, FD.forD_n, FD.atI_0, FD.atI_1, FD.atI_2, FD.atI_3, FD.unset_rt, FD.unset_nx, FD.unset_bk, FD.unset_ct, Option.bind_some, Option.map_some, FD.gI_int, FD.gI0_int, FD.cI_int, FD.gAdd_int, FD.gNeg_int, FD.eqD_int, FD.eqD_str, FD.eqD_bl, FD.eqD_non, FD.neg2_eq, FD.blD_bl, FD.truD_non, FD.truD_bl, FD.truD_int, FD.truD_tup, FD.truD_lst, FD.truD_fls, FD.truD_dic, FD.Dt.seq_tup, FD.Dt.seq_lst, FD.Dt.seq_fls, FD.gLen_tup, FD.gLen_lst, FD.gLen_fls, FD.gInt_int, FD.gInt_bl, FD.gAbs_int, FD.gGcd_int, FD.gIntA_int, FD.gIntA_bl, FD.gIx_tup, FD.gIx_lst, FD.gIx_fls, FD.isi_int_int, FD.isi_int_bool, FD.isi_bool_int, FD.isi_bool_bool, FD.isi_tup, FD.isi_lst, List.map_cons, List.map_nil, List.length_cons, List.length_nil, List.cons_append, List.nil_append, List.set_cons_zero, List.set_cons_succ, List.getElem?_cons_zero, List.getElem?_cons_succ, Nat.reduceAdd, Nat.reduceSub, Nat.zero_add, Nat.sub_self, List.replicate_zero, List.replicate_succ, Nat.reduceLeDiff, if_true, if_false, Bool.false_eq_true, Bool.not_true, Bool.not_false, decide_eq_true_eq, e, h2, h3, decide_false, n0, eq, d2, es, nd, g1, sgnI, Nat.reduceLeDiff]
      · refine ⟨fun z => absurd z.2.2 hg, fun _ => ?_⟩
        have g1 : ((((Nat.gcd (NumText.digitsVal p) (NumText.digitsVal q) : Nat) : Int)) == 1) = false := by
          have : ((Nat.gcd (NumText.digitsVal p) (NumText.digitsVal q) : Nat) : Int) ≠ 1 := by omega
          simpa using this
        cases neg with
        | true => simp only [FD.sSeq_ap, FD.sNext_ap, FD.sBrk_ap, FD.sCont_ap, FD.sIf_ap, FD.sSet_ap, FD.sSetL_ap, FD.sDrop_ap, FD.sRet_ap, FD.sRetN_ap, FD.sFor_ap, FD.sAsg_ap, FD.sRaise_ap, FD.sAppend_ap, FD.sSetIx_ap, FD.eC_ap, FD.eVar_0, FD.eVar_s, FD.e1_ap, FD.e2_ap, FD.t1_ap, FD.t2_ap, FD.eT_ap, FD.tAnd_ap, FD.tOr_ap, FD.tNot_ap, FD.eIf_ap, FD.aNil_ap, FD.aCons_ap, FD.eTup_ap, FD.lLst_ap, FD.eL_ap, FD.eB_ap, FD.eCallR_ap, FD.eAnd_ap, FD.eOr_ap, FD.eNot_ap, FD.eChain_ap, FD.oSeq_ap, FD.oRange_ap, FD.oNone_ap, FD.oInt_ap, FD.lCut_ap, FD.gCutL_lst, FD.gCutL_fls, FD.frzD_int, FD.frzD_bl, FD.frzD_str, FD.frzD_non, FD.frzD_nil, FD.frzD_lst, FD.frzD_fls, FD.outS_nx, FD.outS_rt, FD.outS_exc, FD.runD_eq, FD.Out.bind_ok, FD.Out.bind_exc, FD.Out.bind_bad, FD.stE_ok, FD.stE_exc, FD.stE_bad, FD.andThen_nx, FD.andThen_bk, FD.andThen_ct, FD.andThen_rt, FD.andThen_exc, FD.andThen_bad, FD.ofO_some, FD.ofO_none, FD.Lo.d_sh, FD.Lo.d_ol, FD.Lo.d_od, FD.frz_nil, FD.frz_cons, FD.frz1_0, FD.frz1_n, FD.frz1_s, FD.uName_ap, FD.uTup_ap, FD.uCons_ap, FD.uNil_ap, FD.turn_nx, FD.turn_ct, FD.turn_bk, FD.turn_rt, FD.turn_exc, FD.forD_nil, FD.forD_n, FD.atI_0, FD.atI_1, FD.atI_2, FD.atI_3, FD.unset_rt, FD.unset_nx, FD.unset_bk, FD.unset_ct, Option.bind_some, Option.map_some, FD.gI_int, FD.gI0_int, FD.cI_int, FD.gAdd_int, FD.gNeg_int, FD.eqD_int, FD.eqD_str, FD.eqD_bl, FD.eqD_non, FD.neg2_eq, FD.blD_bl, FD.truD_non, FD.truD_bl, FD.truD_int, FD.truD_tup, FD.truD_lst, FD.truD_fls, FD.truD_dic, FD.Dt.seq_tup, FD.Dt.seq_lst, FD.Dt.seq_fls, FD.gLen_tup, FD.gLen_lst, FD.gLen_fls, FD.gInt_int, FD.gInt_bl, FD.gAbs_int, FD.gGcd_int, FD.gIntA_int, FD.gIntA_bl, FD.gIx_tup, FD.gIx_lst, FD.gIx_fls, FD.isi_int_int, FD.isi_int_bool, FD.isi_bool_int, FD.isi_bool_bool, FD.isi_tup, FD.isi_lst, List.map_cons, List.map_nil, List.length_cons, List.length_nil, List.cons_append, List.nil_append, List.set_cons_zero, List.set_cons_succ, List.getElem?_cons_zero, List.getElem?_cons_succ, Nat.reduceAdd, Nat.reduceSub, Nat.zero_add, Nat.sub_self, List.replicate_zero, List.replicate_succ, Nat.reduceLeDiff, if_true, if_false, Bool.false_eq_true, Bool.not_true, Bool.not_false, decide_eq_true_eq, e, h2, h3, decide_false, n0, e0 rfl, eq, d2, es, nd, g1, z0]
        | false => simp only [FD.sSeq_ap, FD.sNext_ap, FD.sBrk_ap, FD.sCont_ap, FD.sIf_ap, FD.sSet_ap, FD.sSetL_ap, FD.sDrop_ap, FD.sRet_ap, FD.sRetN_ap, FD.sFor_ap, FD.sAsg_ap, FD.sRaise_ap, FD.sAppend_ap, FD.sSetIx_ap, FD.eC_ap, FD.eVar_0, FD.eVar_s, FD.e1_ap, FD.e2_ap, FD.t1_ap, FD.t2_ap, FD.eT_ap, FD.tAnd_ap, FD.tOr_ap, FD.tNot_ap, FD.eIf_ap, FD.aNil_ap, FD.aCons_ap, FD.eTup_ap, FD.lLst_ap, FD.eL_ap, FD.eB_ap, FD.eCallR_ap, FD.eAnd_ap, FD.eOr_ap, FD.eNot_ap, FD.eChain_ap, FD.oSeq_ap, FD.oRange_ap, FD.oNone_ap, FD.oInt_ap, FD.lCut_ap, FD.gCutL_lst, FD.gCutL_fls, FD.frzD_int, FD.frzD_bl, FD.frzD_str, FD.frzD_non, FD.frzD_nil, FD.frzD_lst, FD.frzD_fls, FD.outS_nx, FD.outS_rt, FD.outS_exc, FD.runD_eq, FD.Out.bind_ok, FD.Out.bind_exc, FD.Out.bind_bad, FD.stE_ok, FD.stE_exc, FD.stE_bad, FD.andThen_nx, FD.andThen_bk, FD.andThen_ct, FD.andThen_rt, FD.andThen_exc, FD.andThen_bad, FD.ofO_some, FD.ofO_none, FD.Lo.d_sh, FD.Lo.d_ol, FD.Lo.d_od, FD.frz_nil, FD.frz_cons, FD.frz1_0, FD.frz1_n, FD.frz1_s, FD.uName_ap, FD.uTup_ap, FD.uCons_ap, FD.uNil_ap, FD.turn_nx, FD.turn_ct, FD.turn_bk, FD.turn_rt, FD.turn_exc, FD.forD_nil, FD.forD_n, FD.atI_0, FD.atI_1, FD.atI_2, FD.atI_3, FD.unset_rt, FD.unset_nx, FD.unset_bk, FD.unset_ct, Option.bind_some, Option.map_some, FD.gI_int, FD.gI0_int, FD.cI_int, FD.gAdd_int, FD.gNeg_int, FD.eqD_int, FD.eqD_str, FD.eqD_bl, FD.eqD_non, FD.neg2_eq, FD.blD_bl, FD.truD_non, FD.truD_bl, FD.truD_int, FD.truD_tup, FD.truD_lst, FD.truD_fls, FD.truD_dic, FD.Dt.seq_tup, FD.Dt.seq_lst, FD.Dt.seq_fls, FD.gLen_tup, FD.gLen_lst, FD.gLen_fls, FD.gInt_int, FD.gInt_bl, FD.gAbs_int, FD.gGcd_int, FD.gIntA_int, FD.gIntA_bl, FD.gIx_tup, FD.gIx_lst, FD.gIx_fls, FD.isi_int_int, FD.isi_int_bool, FD.isi_bool_int, FD.isi_bool_bool, FD.isi_tup, FD.isi_lst, List.map_cons, List.map_nil, List.length_cons, List.length_nil, List.cons_append, List.nil_append, List.set_cons_zero, List.set_cons_succ, List.getElem?_cons_zero, List.getElem?_cons_succ, Nat.reduceAdd, Nat.reduceSub, Nat.zero_add, Nat.sub_self, List.replicate_zero, List.replicate_succ, Nat.reduceLeDiff, if_true, if_false, Bool.false_eq_true, Bool.not_true, Bool.not_false, decide_eq_true_eq, e, h2, h3, decide_false, n0, eq, d2, es, nd, g1, z0]
    · refine ⟨fun z => absurd z.2.1 hd, fun _ => ?_⟩
      have d2 : (((NumText.digitsVal q : Nat) : Int)) < 2 := by omega
      cases neg with
      | true => simp only [FD.sSeq_ap, FD.sNext_ap, FD.sBrk_ap, FD.sCont_ap, FD.sIf_ap, FD.sSet_ap, FD.sSetL_ap, FD.sDrop_ap, FD.sRet_ap, FD.sRetN_ap, FD.sFor_ap, FD.sAsg_ap, FD.sRaise_ap, FD.sAppend_ap, FD.sSetIx_ap, FD.eC_ap, FD.eVar_0, FD.eVar_s, FD.e1_ap, FD.e2_ap, FD.t1_ap, FD.t2_ap, FD.eT_ap, FD.tAnd_ap, FD.tOr_ap, FD.tNot_ap, FD.eIf_ap, FD.aNil_ap, FD.aCons_ap, FD.eTup_ap, FD.lLst_ap, FD.eL_ap, FD.eB_ap, FD.eCallR_ap, FD.eAnd_ap, FD.eOr_ap, FD.eNot_ap, FD.eChain_ap, FD.oSeq_ap, FD.oRange_ap, FD.oNone_ap, FD.oInt_ap, FD.lCut_ap, FD.gCutL_lst, FD.gCutL_fls, FD.frzD_int, FD.frzD_bl, FD.frzD_str, FD.frzD_non, FD.frzD_nil, FD.frzD_lst, FD.frzD_fls, FD.outS_nx, FD.outS_rt, FD.outS_exc, FD.runD_eq, FD.Out.bind_ok, FD.Out.bind_exc, FD.Out.bind_bad, FD.stE_ok, FD.stE_exc, FD.stE_bad, FD.andThen_nx, FD.andThen_bk, FD.andThen_ct, FD.andThen_rt, FD.andThen_exc, FD.andThen_bad, FD.ofO_some, FD.ofO_none, FD.Lo.d_sh, FD.Lo.d_ol, FD.Lo.d_od, FD.frz_nil, FD.frz_cons, FD.frz1_0, FD.frz1_n, FD.frz1_s, FD.uName_ap, FD.uTup_ap, FD.uCons_ap, FD.uNil_ap, FD.turn_nx, FD.turn_ct, FD.turn_bk, FD.turn_rt, FD.turn_exc, FD.forD_nil, FD.forD_n, FD.atI_0, FD.atI_1, FD.atI_2, FD.atI_3, FD.unset_rt, FD.unset_nx, FD.unset_bk, FD.unset_ct, Option.bind_some, Option.map_some, FD.gI_int, FD.gI0_int, FD.cI_int, FD.gAdd_int, FD.gNeg_int, FD.eqD_int, FD.eqD_str, FD.eqD_bl, FD.eqD_non, FD.neg2_eq, FD.blD_bl, FD.truD_non, FD.truD_bl, FD.truD_int, FD.truD_tup, FD.truD_lst, FD.truD_fls, FD.truD_dic, FD.Dt.seq_tup, FD.Dt.seq_lst, FD.Dt.seq_fls, FD.gLen_tup, FD.gLen_lst, FD.gLen_fls, FD.gInt_int, FD.gInt_bl, FD.gAbs_int, FD.gGcd_int, FD.gIntA_int, FD.gIntA_bl, FD.gIx_tup, FD.gIx_lst, FD.gIx_fls, FD.isi_int_int, FD.isi_int_bool, FD.isi_bool_int, FD.isi_bool_bool, FD.isi_tup, FD.isi_lst, List.map_cons, List.map_nil, List.length_cons, List.length_nil, List.cons_append, List.nil_append, List.set_cons_zero, List.set_cons_succ, List.getElem?_cons_zero, List.getElem?_cons_succ, Nat.reduceAdd, Nat.reduceSub, Nat.zero_add, Nat.sub_self, List.replicate_zero, List.replicate_succ, Nat.reduceLeDiff, if_true, if_false, Bool.false_eq_true, Bool.not_true, Bool.not_false, decide_eq_true_eq, e, h2, h3, decide_false, n0, e0 rfl, eq, d2, decide_true, z0]
      | false => simp only [FD.sSeq_ap, FD.sNext_ap, FD.sBrk_ap, FD.sCont_ap, FD.sIf_ap, FD.sSet_ap, FD.sSetL_ap, FD.sDrop_ap, FD.sRet_ap, FD.sRetN_ap, FD.sFor_ap, FD.sAsg_ap, FD.sRaise_ap, FD.sAppend_ap, FD.sSetIx_ap, FD.eC_ap, FD.eVar_0, FD.eVar_s, FD.e1_ap, FD.e2_ap, FD.t1_ap, FD.t2_ap, FD.eT_ap, FD.tAnd_ap, FD.tOr_ap, FD.tNot_ap, FD.eIf_ap, FD.aNil_ap, FD.aCons_ap, FD.eTup_ap, FD.lLst_ap, FD.eL_ap, FD.eB_ap, FD.eCallR_ap, FD.eAnd_ap, FD.eOr_ap, FD.eNot_ap, FD.eChain_ap, FD.oSeq_ap, FD.oRange_ap, FD.oNone_ap, FD.oInt_ap, FD.lCut_ap, FD.gCutL_lst, FD.gCutL_fls, FD.frzD_int, FD.frzD_bl, FD.frzD_str, FD.frzD_non, FD.frzD_nil, FD.frzD_lst, FD.frzD_fls, FD.outS_nx, FD.outS_rt, FD.outS_exc, FD.runD_eq, FD.Out.bind_ok, FD.Out.bind_exc, FD.Out.bind_bad, FD.stE_ok, FD.stE_exc, FD.stE_bad, FD.andThen_nx, FD.andThen_bk, FD.andThen_ct, FD.andThen_rt, FD.andThen_exc, FD.andThen_bad, FD.ofO_some, FD.ofO_none, FD.Lo.d_sh, FD.Lo.d_ol, FD.Lo.d_od, FD.frz_nil, FD.frz_cons, FD.frz1_0, FD.frz1_n, FD.frz1_s, FD.uName_ap, FD.uTup_ap, FD.uCons_ap, FD.uNil_ap, FD.turn_nx, FD.turn_ct, FD.turn_bk, FD.turn_rt, FD.turn_exc, FD.forD_nil, FD.forD_n, FD.atI_0, FD.atI_1, FD.atI_2, FD.atI_3, FD.unset_rt, FD.unset_nx, FD.unset_bk, FD.unset_ct, Option.bind_some, Option.map_some, FD.gI_int, FD.gI0_int, FD.cI_int, FD.gAdd_int, FD.gNeg_int, FD.eqD_int, FD.eqD_str, FD.eqD_bl, FD.eqD_non, FD.neg2_eq, FD.blD_bl, FD.truD_non, FD.truD_bl, FD.truD_int, FD.truD_tup, FD.truD_lst, FD.truD_fls, FD.truD_dic, FD.Dt.seq_tup, FD.Dt.seq_lst, FD.Dt.seq_fls, FD.gLen_tup, FD.gLen_lst, FD.gLen_fls, FD.gInt_int, FD.gInt_bl, FD.gAbs_int, FD.gGcd_int, FD.gIntA_int, FD.gIntA_bl, FD.gIx_tup, FD.gIx_lst, FD.gIx_fls, FD.isi_int_int, FD.isi_int_bool, FD.isi_bool_int, FD.isi_bool_bool, FD.isi_tup, FD.isi_lst, List.map_cons, List.map_nil, List.length_cons, List.length_nil, List.cons_append, List.nil_append, List.set_cons_zero, List.set_cons_succ, List.getElem?_cons_zero, List.getElem?_cons_succ, Nat.reduceAdd, Nat.reduceSub, Nat.zero_add, Nat.sub_self, List.replicate_zero, List.replicate_succ, Nat.reduceLeDiff, if_true, if_false, Bool.false_eq_true, Bool.not_true, Bool.not_false, decide_eq_true_eq, e, h2, h3, decide_false, n0, eq, d2, decide_true, z0]
  · refine ⟨fun z => absurd z.1 hcq, fun _ => ?_⟩
    have eq := (e_law_digits (K := K) (cs := cs) (by omega : q.length ≤ 100000)).2 hcq
    have d2 : (-1 : Int) < 2 := by decide
    cases neg with
    | true => simp only [FD.sSeq_ap, FD.sNext_ap, FD.sBrk_ap, FD.sCont_ap, FD.sIf_ap, FD.sSet_ap, FD.sSetL_ap, FD.sDrop_ap, FD.sRet_ap, FD.sRetN_ap, FD.sFor_ap, FD.sAsg_ap, FD.sRaise_ap, FD.sAppend_ap, FD.sSetIx_ap, FD.eC_ap, FD.eVar_0, FD.eVar_s, FD.e1_ap, FD.e2_ap, FD.t1_ap, FD.t2_ap, FD.eT_ap, FD.tAnd_ap, FD.tOr_ap, FD.tNot_ap, FD.eIf_ap, FD.aNil_ap, FD.aCons_ap, FD.eTup_ap, FD.lLst_ap, FD.eL_ap, FD.eB_ap, FD.eCallR_ap, FD.eAnd_ap, FD.eOr_ap, FD.eNot_ap, FD.eChain_ap, FD.oSeq_ap, FD.oRange_ap, FD.oNone_ap, FD.oInt_ap, FD.lCut_ap, FD.gCutL_lst, FD.gCutL_fls, FD.frzD_int, FD.frzD_bl, FD.frzD_str, FD.frzD_non, FD.frzD_nil, FD.frzD_lst, FD.frzD_fls, FD.outS_nx, FD.outS_rt, FD.outS_exc, FD.runD_eq, FD.Out.bind_ok, FD.Out.bind_exc, FD.Out.bind_bad, FD.stE_ok, FD.stE_exc, FD.stE_bad, FD.andThen_nx, FD.andThen_bk, FD.andThen_ct, FD.andThen_rt, FD.andThen_exc, FD.andThen_bad, FD.ofO_some, FD.ofO_none, FD.Lo.d_sh, FD.Lo.d_ol, FD.Lo.d_od, FD.frz_nil, FD.frz_cons, FD.frz1_0, FD.frz1_n, FD.frz1_s, FD.uName_ap, FD.uTup_ap, FD.uCons_ap, FD.uNil_ap, FD.turn_nx, FD.turn_ct, FD.turn_bk, FD.turn_rt, FD.turn_exc, FD.forD_nil, FD.forD_n, FD.atI_0, FD.atI_1, FD.atI_2, FD.atI_3, FD.unset_rt, FD.unset_nx, FD.unset_bk, FD.unset_ct, Option.bind_some, Option.map_some, FD.gI_int, FD.gI0_int, FD.cI_int, FD.gAdd_int, FD.gNeg_int, FD.eqD_int, FD.eqD_str, FD.eqD_bl, FD.eqD_non, FD.neg2_eq, FD.blD_bl, FD.truD_non, FD.truD_bl, FD.truD_int, FD.truD_tup, FD.truD_lst, FD.truD_fls, FD.truD_dic, FD.Dt.seq_tup, FD.Dt.seq_lst, FD.Dt.seq_fls, FD.gLen_tup, FD.gLen_lst, FD.gLen_fls, FD.gInt_int, FD.gInt_bl, FD.gAbs_int, FD.gGcd_int, FD.gIntA_int, FD.gIntA_bl, FD.gIx_tup, FD.gIx_lst, FD.gIx_fls, FD.isi_int_int, FD.isi_int_bool, FD.isi_bool_int, FD.isi_bool_bool, FD.isi_tup, FD.isi_lst, List.map_cons, List.map_nil, List.length_cons, List.length_nil, List.cons_append, List.nil_append, List.set_cons_zero, List.set_cons_succ, List.getElem?_cons_zero, List.getElem?_cons_succ, Nat.reduceAdd, Nat.reduceSub, Nat.zero_add, Nat.sub_self, List.replicate_zero, List.replicate_succ, Nat.reduceLeDiff, if_true, if_false, Bool.false_eq_true, Bool.not_true, Bool.not_false, decide_eq_true_eq, e, h2, h3, decide_false, n0, e0 rfl, eq, d2, decide_true, z0]
    | false => simp only [FD.sSeq_ap, FD.sNext_ap, FD.sBrk_ap, FD.sCont_ap, FD.sIf_ap, FD.sSet_ap, FD.sSetL_ap, FD.sDrop_ap, FD.sRet_ap, FD.sRetN_ap, FD.sFor_ap, FD.sAsg_ap, FD.sRaise_ap, FD.sAppend_ap, FD.sSetIx_ap, FD.eC_ap, FD.eVar_0, FD.eVar_s, FD.e1_ap, FD.e2_ap, FD.t1_ap, FD.t2_ap, FD.eT_ap, FD.tAnd_ap, FD.tOr_ap, FD.tNot_ap, FD.eIf_ap, FD.aNil_ap, FD.aCons_ap, FD.eTup_ap, FD.lLst_ap, FD.eL_ap, FD.eB_ap, FD.eCallR_ap, FD.eAnd_ap, FD.eOr_ap, FD.eNot_ap, FD.eChain_ap, FD.oSeq_ap, FD.oRange_ap, FD.oNone_ap, FD.oInt_ap, FD.lCut_ap, FD.gCutL_lst, FD.gCutL_fls, FD.frzD_int, FD.frzD_bl, FD.frzD_str, FD.frzD_non, FD.frzD_nil, FD.frzD_lst, FD.frzD_fls, FD.outS_nx, FD.outS_rt, FD.outS_exc, FD.runD_eq, FD.Out.bind_ok, FD.Out.bind_exc, FD.Out.bind_bad, FD.stE_ok, FD.stE_exc, FD.stE_bad, FD.andThen_nx, FD.andThen_bk, FD.andThen_ct, FD.andThen_rt, FD.andThen_exc, FD.andThen_bad, FD.ofO_some, FD.ofO_none, FD.Lo.d_sh, FD.Lo.d_ol, FD.Lo.d_od, FD.frz_nil, FD.frz_cons, FD.frz1_0, FD.frz1_n, FD.frz1_s, FD.uName_ap, FD.uTup_ap, FD.uCons_ap, FD.uNil_ap, FD.turn_nx, FD.turn_ct, FD.turn_bk, FD.turn_rt, FD.turn_exc, FD.forD_nil, FD.forD_n, FD.atI_0, FD.atI_1, FD.atI_2, FD.atI_3, FD.unset_rt, FD.unset_nx, FD.unset_bk, FD.unset_ct, Option.bind_some, Option.map_some, FD.gI_int, FD.gI0_int, FD.cI_int, FD.gAdd_int, FD.gNeg_int, FD.eqD_int, FD.eqD_str, FD.eqD_bl, FD.eqD_non, FD.neg2_eq, FD.blD_bl, FD.truD_non, FD.truD_bl, FD.truD_int, FD.truD_tup, FD.truD_lst, FD.truD_fls, FD.truD_dic, FD.Dt.seq_tup, FD.Dt.seq_lst, FD.Dt.seq_fls, FD.gLen_tup, FD.gLen_lst, FD.gLen_fls, FD.gInt_int, FD.gInt_bl, FD.gAbs_int, FD.gGcd_int, FD.gIntA_int, FD.gIntA_bl, FD.gIx_tup, FD.gIx_lst, FD.gIx_fls, FD.isi_int_int, FD.isi_int_bool, FD.isi_bool_int, FD.isi_bool_bool, FD.isi_tup, FD.isi_lst, List.map_cons, List.map_nil, List.length_cons, List.length_nil, List.cons_append, List.nil_append, List.set_cons_zero, List.set_cons_succ, List.getElem?_cons_zero, List.getElem?_cons_succ, Nat.reduceAdd, Nat.reduceSub, Nat.zero_add, Nat.sub_self, List.replicate_zero, List.replicate_succ, Nat.reduceLeDiff, if_true, if_false, Bool.false_eq_true, Bool.not_true, Bool.not_false, decide_eq_true_eq, e, h2, h3, decide_false, n0, eq, d2, decide_true, z0]
end
/-! ### both readers -/
theorem noDash_of {p : List Nat} (h : p.take 1 ≠ [45]) : noDash p = p := by
  unfold noDash
  split
  · exact absurd rfl h
  · rfl
/-- the top as it stands -/
def topL (neg : Bool) (p : List Nat) : List Nat := if neg = true then 45 :: p else p
theorem top_dash {neg : Bool} {p : List Nat} (h : neg = false → p.take 1 ≠ [45]) : noDash (topL neg p) = p := by
  unfold topL
  cases neg with
  | true => rfl
  | false => exact noDash_of (h rfl)
theorem top_int {neg : Bool} {p : List Nat} (hd : Dig p) : gIntA [.str (S (topL neg p))] = some (.int (sgnI neg (NumText.digitsVal p))) := by
  unfold topL sgnI
  cases neg with
  | true => exact int_neg hd
  | false => exact int_dig hd
theorem num_one (n : Int) : (Rat.divInt n 1).num = n ∧ (Rat.divInt n 1).den = 1 := by
  rw [Rat.num_divInt, Rat.den_divInt]
  simp
/-- the text of a whole number is its top -/
theorem numI_top {neg : Bool} {p : List Nat} (hd : Dig p) : numI (sgnI neg (NumText.digitsVal p)) = topL neg p ↔ (Can p ∧ ¬ (neg = true ∧ NumText.digitsVal p = 0)) := by
  unfold sgnI topL
  cases neg with
  | true =>
    simp only [if_true, true_and]
    by_cases hz : NumText.digitsVal p = 0
    · rw [hz]
      constructor
      · intro h
        have e : numI (-((0 : Nat) : Int)) = [48] := by decide
        rw [e] at h
        cases h
      · exact fun z => absurd rfl z.2
    · rw [numI_neg (by omega)]
      constructor
      · intro h
        injection h with _ h
        exact ⟨⟨hd, h⟩, hz⟩
      · intro h
        rw [h.1.2]
  | false =>
    simp only [Bool.false_eq_true, if_false, false_and, not_false_eq_true, and_true]
    rw [numI_nat]
    exact ⟨fun h => ⟨hd, h⟩, fun h => h.2⟩
theorem dig_49 : Dig [49] := ⟨by decide, by decide, by intro c hc; rw [List.mem_singleton.mp hc]; decide⟩
theorem free45 {n : Nat} : 45 ∉ numL n := numL_free (by decide)
theorem free47 {i : Int} : 47 ∉ numI i := by
  unfold numI
  split
  · intro h
    rcases List.mem_cons.mp h with h | h
    · cases h
    · exact numL_free (by decide) h
  · exact numL_free (by decide)
/-- what the two readers say of t -/
def Verd (K : PySem.W.Frag) (cs : Cs) (t : List Nat) : Prop := (m__law_read K cs [.str (S t)] = .ok (.lst []) ∧ m_read_exact K cs [.str (S t)] = .exc (badX cs t)) ∨
  ∃ q : Rat, m__law_read K cs [.str (S t)] = .ok (.lst [.int q.num, .int (q.den : Int)]) ∧ m_read_exact K cs [.str (S t)] = .ok (fr q) ∧ textL q.num (q.den : Int) = t ∧ q.num.natAbs < 10 ^ 40 ∧ q.den < 10 ^ 40
theorem verd_int {t p : List Nat} {neg : Bool} (c : Cut t neg p) (hl : t.length ≤ 50000) (ha : ∀ c ∈ t, c < 128) (h47 : 47 ∉ p) : Verd K cs t := by
  have et : t = topL neg p := c.eq
  obtain ⟨x2, el⟩ := lread (K := K) (cs := cs) c hl
  rw [spl_no h47] at el
  have ht47 : 47 ∉ t := by
    rw [et]
    unfold topL
    cases neg with
    | true =>
      intro h
      rcases List.mem_cons.mp h with h | h
      · cases h
      · exact h47 h
    | false => exact h47
  have er := read_none (K := K) (cs := cs) hl ht47
  have hp : p.length ≤ 50000 := by
    rw [et] at hl
    unfold topL at hl
    cases neg <;> simp at hl <;> omega
  have nd : noDash t = p := by
    rw [et]
    exact top_dash c.hd
  by_cases hd : Dig p
  · have hn := top_int (neg := neg) hd
    rw [← et] at hn
    have co := core_ok (K := K) (cs := cs) (t := t) (top := t) (bot := [49]) (bar := some (.sh (.str (S [])))) (n := sgnI neg (NumText.digitsVal p)) (d := 1) hl ha hl (by decide) (by rw [nd]; exact hd) dig_49 hn (by rw [sgn_abs]; exact val_lt hd) rfl (by decide)
    rw [← er, if_neg (by decide)] at co
    obtain ⟨q1, q2⟩ := num_one (sgnI neg (NumText.digitsVal p))
    have c1 : ((1 : Nat) : Int) = 1 := rfl
    rw [c1] at co
    have ex : textL (Rat.divInt (sgnI neg (NumText.digitsVal p)) 1).num ((Rat.divInt (sgnI neg (NumText.digitsVal p)) 1).den : Int) = numI (sgnI neg (NumText.digitsVal p)) := by
      rw [q1, q2]
      rfl
    by_cases hk : Can p ∧ ¬ (neg = true ∧ NumText.digitsVal p = 0)
    · have hx := (numI_top hd).mpr hk
      rw [← et] at hx
      right
      refine ⟨Rat.divInt (sgnI neg (NumText.digitsVal p)) 1, ?_, ?_, by rw [ex, hx], ?_, ?_⟩
      · rw [el, law_int hp hk.1 hk.2, q1, q2]
        rfl
      · rw [co, if_pos (by rw [ex, hx])]
      · rw [q1, sgn_abs]
        exact val_lt hd
      · rw [q2]
        decide
    · left
      refine ⟨?_, ?_⟩
      · rw [el]
        refine law_bad hp ?_
        by_cases hc : Can p
        · exact .inr (Classical.byContradiction fun z => hk ⟨hc, z⟩)
        · exact .inl hc
      · rw [co, if_neg]
        rw [ex]
        intro z
        rw [et] at z
        exact hk ((numI_top hd).mp z)
  · left
    refine ⟨?_, ?_⟩
    · rw [el]
      exact law_bad hp (.inl fun z => hd z.1)
    · rw [er]
      exact core_bad hl ha hl (by decide) fun z => hd (by rw [nd] at z; exact z.1)
end Lk01

set_option exponentiation.threshold 4000
namespace Lk01
open PySem L2 FD SX TL
variable {K : PySem.W.Frag} {cs : Cs}
theorem free_topL {neg : Bool} {p : List Nat} (h : 47 ∉ p) : 47 ∉ topL neg p := by
  unfold topL
  cases neg with
  | true =>
    intro z
    rcases List.mem_cons.mp z with z | z
    · cases z
    · exact h z
  | false => exact h
/-- the first slash parts a text in one way -/
theorem slash_inj {a b c d : List Nat} (ha : 47 ∉ a) (hc : 47 ∉ c) (h : a ++ 47 :: b = c ++ 47 :: d) : a = c ∧ b = d := by
  have h1 := par_head (c := 47) (sep := []) b ha
  have h2 := par_head (c := 47) (sep := []) d hc
  have e : a ++ ([47] ++ b) = c ++ ([47] ++ d) := h
  rw [e, h2] at h1
  injection h1 with h1
  injection h1 with h3 h4
  exact ⟨h3.symm, h4.symm⟩
theorem div_cop {n : Int} {d : Nat} (hd : 0 < d) (h : Nat.gcd n.natAbs d = 1) : (Rat.divInt n (d : Int)).num = n ∧ (Rat.divInt n (d : Int)).den = d := by
  have e : (d : Int).gcd n = 1 := by
    rw [Int.gcd_comm]
    show Nat.gcd n.natAbs (d : Int).natAbs = 1
    rw [Int.natAbs_natCast]
    exact h
  rw [Rat.num_divInt, Rat.den_divInt, e, Int.sign_eq_one_of_pos (by omega), if_neg (by omega), Int.natAbs_natCast]
  simp
theorem verd_frac {t p q : List Nat} {neg : Bool} (c : Cut t neg (p ++ 47 :: q)) (hl : t.length ≤ 50000) (ha : ∀ c ∈ t, c < 128) (hp47 : 47 ∉ p) (hq47 : 47 ∉ q) : Verd K cs t := by
  have et : t = topL neg p ++ 47 :: q := by
    rw [c.eq]
    unfold topL
    cases neg <;> rfl
  obtain ⟨x2, el⟩ := lread (K := K) (cs := cs) c hl
  rw [spl_one hp47, spl_no hq47] at el
  have hlen : (topL neg p).length + (q.length + 1) ≤ 50000 := by
    rw [et, List.length_append, List.length_cons] at hl
    exact hl
  have hpl : p.length ≤ (topL neg p).length := by
    unfold topL
    cases neg <;> simp
  have hp : p.length ≤ 50000 := by omega
  have hq : q.length ≤ 50000 := by omega
  have ht : (topL neg p).length ≤ 50000 := by omega
  have er := read_some (K := K) (cs := cs) (p := topL neg p) (q := q) (by rw [← et]; exact hl) (free_topL hp47)
  rw [← et] at er
  have hpd : neg = false → p.take 1 ≠ [45] := fun hn => by
    have := c.hd hn
    cases p with
    | nil => simp
    | cons x p => exact this
  have nd : noDash (topL neg p) = p := top_dash hpd
  by_cases hd : Dig p ∧ Dig q
  · obtain ⟨hdp, hdq⟩ := hd
    have hn := top_int (neg := neg) hdp
    have co := core_ok (K := K) (cs := cs) (t := t) (top := topL neg p) (bot := q) (bar := some (.sh (.str (S [47])))) (n := sgnI neg (NumText.digitsVal p)) (d := NumText.digitsVal q) hl ha ht hq (by rw [nd]; exact hdp) hdq hn (by rw [sgn_abs]; exact val_lt hdp) rfl (val_lt hdq)
    rw [← er] at co
    by_cases hk : (Can p ∧ ¬ (neg = true ∧ NumText.digitsVal p = 0)) ∧ (Can q ∧ 2 ≤ NumText.digitsVal q ∧ Nat.gcd (NumText.digitsVal p) (NumText.digitsVal q) = 1)
    · obtain ⟨⟨hk1, hk2⟩, hk3⟩ := hk
      obtain ⟨q1, q2⟩ := div_cop (n := sgnI neg (NumText.digitsVal p)) (d := NumText.digitsVal q) (by omega) (by rw [sgn_abs]; exact hk3.2.2)
      have tx : textL (Rat.divInt (sgnI neg (NumText.digitsVal p)) (NumText.digitsVal q : Nat)).num ((Rat.divInt (sgnI neg (NumText.digitsVal p)) (NumText.digitsVal q : Nat)).den : Int) = t := by
        rw [q1, q2]
        unfold textL
        rw [if_neg (by omega), (numI_top hdp).mpr ⟨hk1, hk2⟩, numI_nat, hk3.1.2, et]
      right
      refine ⟨Rat.divInt (sgnI neg (NumText.digitsVal p)) (NumText.digitsVal q : Nat), ?_, ?_, tx, ?_, ?_⟩
      · rw [el, (law_frac hp hq hk1 hk2).1 hk3, q1, q2]
      · rw [co, if_neg (by omega), if_pos tx]
      · rw [q1, sgn_abs]
        exact val_lt hdp
      · rw [q2]
        exact val_lt hdq
    · left
      refine ⟨?_, ?_⟩
      · rw [el]
        by_cases hk1 : Can p ∧ ¬ (neg = true ∧ NumText.digitsVal p = 0)
        · exact (law_frac hp hq hk1.1 hk1.2).2 fun z => hk ⟨hk1, z⟩
        · refine law_bad hp ?_
          by_cases hc : Can p
          · exact .inr (Classical.byContradiction fun z => hk1 ⟨hc, z⟩)
          · exact .inl hc
      · rw [co]
        by_cases hz : NumText.digitsVal q = 0
        · rw [if_pos hz]
        · rw [if_neg hz, if_neg]
          intro tx
          generalize hr : Rat.divInt (sgnI neg (NumText.digitsVal p)) (NumText.digitsVal q : Nat) = r at tx
          rw [et] at tx
          unfold textL at tx
          have d1 : ¬ ((r.den : Int) = 1) := fun z => by
            rw [if_pos z] at tx
            have : 47 ∈ numI r.num := by rw [tx]; exact List.mem_append_right _ List.mem_cons_self
            exact free47 this
          rw [if_neg d1] at tx
          obtain ⟨t1, t2⟩ := slash_inj free47 (free_topL hp47) tx
          rw [numI_nat] at t2
          have hvq : NumText.digitsVal q = r.den := by rw [← t2, numL_val]
          have cq : Can q := ⟨hdq, by rw [hvq, t2]⟩
          have r0 : 0 < r.den := r.den_pos
          have hnum : r.num = sgnI neg (NumText.digitsVal p) ∧ Can p ∧ ¬ (neg = true ∧ NumText.digitsVal p = 0) := by
            unfold topL at t1
            unfold numI at t1
            cases neg with
            | true =>
              simp only [if_true] at t1
              by_cases hneg : r.num < 0
              · rw [if_pos hneg] at t1
                injection t1 with _ t1
                have hv : NumText.digitsVal p = r.num.natAbs := by rw [← t1, numL_val]
                refine ⟨?_, ⟨hdp, by rw [hv, t1]⟩, fun z => ?_⟩
                · unfold sgnI
                  rw [if_pos rfl, hv]
                  omega
                · have := z.2
                  omega
              · rw [if_neg hneg] at t1
                have : 45 ∈ numL r.num.natAbs := by rw [t1]; exact List.mem_cons_self
                exact absurd this free45
            | false =>
              simp only [Bool.false_eq_true, if_false] at t1
              by_cases hneg : r.num < 0
              · rw [if_pos hneg] at t1
                exact absurd (by rw [← t1]; rfl) (hpd rfl)
              · rw [if_neg hneg] at t1
                have hv : NumText.digitsVal p = r.num.natAbs := by rw [← t1, numL_val]
                refine ⟨?_, ⟨hdp, by rw [hv, t1]⟩, fun z => by cases z.1⟩
                unfold sgnI
                rw [if_neg Bool.false_ne_true, hv]
                omega
          refine hk ⟨hnum.2, cq, by omega, ?_⟩
          have hred := r.reduced
          rw [hnum.1, sgn_abs] at hred
          rw [hvq]
          exact hred
  · left
    refine ⟨?_, ?_⟩
    · rw [el]
      by_cases hk1 : Can p ∧ ¬ (neg = true ∧ NumText.digitsVal p = 0)
      · exact (law_frac hp hq hk1.1 hk1.2).2 fun z => hd ⟨hk1.1.1, z.1.1⟩
      · refine law_bad hp ?_
        by_cases hc : Can p
        · exact .inr (Classical.byContradiction fun z => hk1 ⟨hc, z⟩)
        · exact .inl hc
    · rw [er]
      exact core_bad hl ha ht hq fun z => hd (by rw [nd] at z; exact z)
theorem verd_many {t p q r : List Nat} {neg : Bool} (c : Cut t neg (p ++ 47 :: (q ++ 47 :: r))) (hl : t.length ≤ 50000) (ha : ∀ c ∈ t, c < 128) (hp47 : 47 ∉ p) (hq47 : 47 ∉ q) : Verd K cs t := by
  have et : t = topL neg p ++ 47 :: (q ++ 47 :: r) := by
    rw [c.eq]
    unfold topL
    cases neg <;> rfl
  obtain ⟨x2, el⟩ := lread (K := K) (cs := cs) c hl
  rw [spl_one hp47, spl_one hq47] at el
  have hlen : (topL neg p).length + ((q ++ 47 :: r).length + 1) ≤ 50000 := by
    rw [et, List.length_append, List.length_cons] at hl
    exact hl
  have hpl : p.length ≤ (topL neg p).length := by
    unfold topL
    cases neg <;> simp
  have er := read_some (K := K) (cs := cs) (p := topL neg p) (q := q ++ 47 :: r) (by rw [← et]; exact hl) (free_topL hp47)
  rw [← et] at er
  left
  refine ⟨?_, ?_⟩
  · rw [el]
    cases hs : spl [47] 0 [] r with
    | nil =>
      have : (spl [47] 0 [] r) ≠ [] := by
        by_cases h : 47 ∈ r
        · obtain ⟨a, b, e, hn⟩ := List.eq_append_cons_of_mem h
          rw [e, spl_one hn]
          simp
        · rw [spl_no h]
          simp
      exact absurd hs this
    | cons x xs => exact law_three (by omega)
  · rw [er]
    refine core_bad hl ha (by omega) (by omega) fun z => ?_
    have := z.2.2.2 47 (List.mem_append_right _ List.mem_cons_self)
    omega
theorem verd (t : List Nat) (hl : t.length ≤ 50000) (ha : ∀ c ∈ t, c < 128) : Verd K cs t := by
  obtain ⟨neg, rest, c⟩ := cut_ex t
  by_cases h : 47 ∈ rest
  · obtain ⟨p, q, e, hn⟩ := List.eq_append_cons_of_mem h
    subst e
    by_cases h2 : 47 ∈ q
    · obtain ⟨p2, q2, e, hn2⟩ := List.eq_append_cons_of_mem h2
      subst e
      exact verd_many c hl ha hn hn2
    · exact verd_frac c hl ha hn h2
  · exact verd_int c hl ha h
end Lk01

set_option exponentiation.threshold 4000
namespace Lk01
open PySem L2 FD SX TL
variable {P : Program} {w : World} {K : PySem.W.Frag} {mg : Str → Option Value} {base : Heap} {cs : Cs}
theorem gXf_1 {D a : Addr} {od : Option Addr} {f : Str} {v : Dt} : gXf D a od f (.exn a od D [f] [v]) = some v := by
  unfold gXf
  simp [List.lookup]
theorem eqD_nil : eqD (.lst []) (.lst []) = some true := rfl
theorem eqD_two (a b : Int) : eqD (.lst [.int a, .int b]) (.lst []) = some false := rfl
theorem neD_int (i j : Int) : neD (.int i) (.int j) = some (!(i == j)) := rfl
theorem e_is_integer' {i : Int} : m__law_is_integer K cs [.int i] = .ok (.bl true) := e_is_integer
theorem asked (T : Tx P w K mg base cs) (t : List Nat) (hl : t.length ≤ 50000) (ha : ∀ c ∈ t, c < 128) : m__law_asked K cs [.str (S t)] = .ok (.bl true) := by
  unfold m__law_asked argN b__law_asked
  have z0 : (0 : Nat) ≤ 16777216 := Nat.zero_le _
  have et : ((S t : Str) == S t) = true := beq_self_eq_true _
  rcases verd (K := K) (cs := cs) t hl ha with ⟨h1, h2⟩ | ⟨q, h1, h2, h3, h4, h5⟩
  · have hD : (badX cs t).cls ∈ cs.all := List.mem_cons_of_mem _ (List.mem_singleton.mpr rfl)
    simp only [FD.sSeq_ap, FD.sNext_ap, FD.sBrk_ap, FD.sCont_ap, FD.sIf_ap, FD.sSet_ap, FD.sSetL_ap, FD.sDrop_ap, FD.sRet_ap, FD.sRetN_ap, FD.sFor_ap, FD.sAsg_ap, FD.sRaise_ap, FD.sAppend_ap, FD.sSetIx_ap, FD.eC_ap, FD.eVar_0, FD.eVar_s, FD.e1_ap, FD.e2_ap, FD.t1_ap, FD.t2_ap, FD.eT_ap, FD.tAnd_ap, FD.tOr_ap, FD.tNot_ap, FD.eIf_ap, FD.aNil_ap, FD.aCons_ap, FD.eTup_ap, FD.lLst_ap, FD.eL_ap, FD.eB_ap, FD.eCallR_ap, FD.eAnd_ap, FD.eOr_ap, FD.eNot_ap, FD.eChain_ap, FD.oSeq_ap, FD.oRange_ap, FD.oNone_ap, FD.oInt_ap, FD.lCut_ap, FD.gCutL_lst, FD.gCutL_fls, FD.frzD_int, FD.frzD_bl, FD.frzD_str, FD.frzD_non, FD.frzD_nil, FD.frzD_lst, FD.frzD_fls, FD.outS_nx, FD.outS_rt, FD.outS_exc, FD.runD_eq, FD.Out.bind_ok, FD.Out.bind_exc, FD.Out.bind_bad, FD.stE_ok, FD.stE_exc, FD.stE_bad, FD.andThen_nx, FD.andThen_bk, FD.andThen_ct, FD.andThen_rt, FD.andThen_exc, FD.andThen_bad, FD.ofO_some, FD.ofO_none, FD.Lo.d_sh, FD.Lo.d_ol, FD.Lo.d_od, FD.frz_nil, FD.frz_cons, FD.frz1_0, FD.frz1_n, FD.frz1_s, FD.uName_ap, FD.uTup_ap, FD.uCons_ap, FD.uNil_ap, FD.turn_nx, FD.turn_ct, FD.turn_bk, FD.turn_rt, FD.turn_exc, FD.forD_nil, FD.forD_n, FD.atI_0, FD.atI_1, FD.atI_2, FD.atI_3, FD.unset_rt, FD.unset_nx, FD.unset_bk, FD.unset_ct, Option.bind_some, Option.map_some, FD.gI_int, FD.gI0_int, FD.cI_int, FD.gAdd_int, FD.gNeg_int, FD.eqD_int, FD.eqD_str, FD.eqD_bl, FD.eqD_non, FD.neg2_eq, FD.blD_bl, FD.truD_non, FD.truD_bl, FD.truD_int, FD.truD_tup, FD.truD_lst, FD.truD_fls, FD.truD_dic, FD.Dt.seq_tup, FD.Dt.seq_lst, FD.Dt.seq_fls, FD.gLen_tup, FD.gLen_lst, FD.gLen_fls, FD.gInt_int, FD.gInt_bl, FD.gAbs_int, FD.gGcd_int, FD.gIntA_int, FD.gIntA_bl, FD.gIx_tup, FD.gIx_lst, FD.gIx_fls, FD.isi_int_int, FD.isi_int_bool, FD.isi_bool_int, FD.isi_bool_bool, FD.isi_tup, FD.isi_lst, List.map_cons, List.map_nil, List.length_cons, List.length_nil, List.cons_append, List.nil_append, List.set_cons_zero, List.set_cons_succ, List.getElem?_cons_zero, List.getElem?_cons_succ, Nat.reduceAdd, Nat.reduceSub, Nat.zero_add, Nat.sub_self, List.replicate_zero, List.replicate_succ, Nat.reduceLeDiff, if_true, if_false, Bool.false_eq_true, Bool.not_true, Bool.not_false, decide_eq_true_eq, h1]
    rw [sTryAs_exc (r := .ok (.rt (.bl true)) []) (x := badX cs t) (ρ1 := [some (.sh (.str (S t))), some (.sh (.lst [])), none, none, none, none, none]) ?g T.x_BadExact_BadExact hD ?h]
    case g => simp only [FD.sSeq_ap, FD.sNext_ap, FD.sBrk_ap, FD.sCont_ap, FD.sIf_ap, FD.sSet_ap, FD.sSetL_ap, FD.sDrop_ap, FD.sRet_ap, FD.sRetN_ap, FD.sFor_ap, FD.sAsg_ap, FD.sRaise_ap, FD.sAppend_ap, FD.sSetIx_ap, FD.eC_ap, FD.eVar_0, FD.eVar_s, FD.e1_ap, FD.e2_ap, FD.t1_ap, FD.t2_ap, FD.eT_ap, FD.tAnd_ap, FD.tOr_ap, FD.tNot_ap, FD.eIf_ap, FD.aNil_ap, FD.aCons_ap, FD.eTup_ap, FD.lLst_ap, FD.eL_ap, FD.eB_ap, FD.eCallR_ap, FD.eAnd_ap, FD.eOr_ap, FD.eNot_ap, FD.eChain_ap, FD.oSeq_ap, FD.oRange_ap, FD.oNone_ap, FD.oInt_ap, FD.lCut_ap, FD.gCutL_lst, FD.gCutL_fls, FD.frzD_int, FD.frzD_bl, FD.frzD_str, FD.frzD_non, FD.frzD_nil, FD.frzD_lst, FD.frzD_fls, FD.outS_nx, FD.outS_rt, FD.outS_exc, FD.runD_eq, FD.Out.bind_ok, FD.Out.bind_exc, FD.Out.bind_bad, FD.stE_ok, FD.stE_exc, FD.stE_bad, FD.andThen_nx, FD.andThen_bk, FD.andThen_ct, FD.andThen_rt, FD.andThen_exc, FD.andThen_bad, FD.ofO_some, FD.ofO_none, FD.Lo.d_sh, FD.Lo.d_ol, FD.Lo.d_od, FD.frz_nil, FD.frz_cons, FD.frz1_0, FD.frz1_n, FD.frz1_s, FD.uName_ap, FD.uTup_ap, FD.uCons_ap, FD.uNil_ap, FD.turn_nx, FD.turn_ct, FD.turn_bk, FD.turn_rt, FD.turn_exc, FD.forD_nil, FD.forD_n, FD.atI_0, FD.atI_1, FD.atI_2, FD.atI_3, FD.unset_rt, FD.unset_nx, FD.unset_bk, FD.unset_ct, Option.bind_some, Option.map_some, FD.gI_int, FD.gI0_int, FD.cI_int, FD.gAdd_int, FD.gNeg_int, FD.eqD_int, FD.eqD_str, FD.eqD_bl, FD.eqD_non, FD.neg2_eq, FD.blD_bl, FD.truD_non, FD.truD_bl, FD.truD_int, FD.truD_tup, FD.truD_lst, FD.truD_fls, FD.truD_dic, FD.Dt.seq_tup, FD.Dt.seq_lst, FD.Dt.seq_fls, FD.gLen_tup, FD.gLen_lst, FD.gLen_fls, FD.gInt_int, FD.gInt_bl, FD.gAbs_int, FD.gGcd_int, FD.gIntA_int, FD.gIntA_bl, FD.gIx_tup, FD.gIx_lst, FD.gIx_fls, FD.isi_int_int, FD.isi_int_bool, FD.isi_bool_int, FD.isi_bool_bool, FD.isi_tup, FD.isi_lst, List.map_cons, List.map_nil, List.length_cons, List.length_nil, List.cons_append, List.nil_append, List.set_cons_zero, List.set_cons_succ, List.getElem?_cons_zero, List.getElem?_cons_succ, Nat.reduceAdd, Nat.reduceSub, Nat.zero_add, Nat.sub_self, List.replicate_zero, List.replicate_succ, Nat.reduceLeDiff, if_true, if_false, Bool.false_eq_true, Bool.not_true, Bool.not_false, decide_eq_true_eq, h2]
    case h =>
      intro a d _
      have xa : xAt (badX cs t) a d = .exn a d cs.c_BadExact [("text" : Str)] [.str (S t)] := rfl
      have xc : (badX cs t).cls = cs.c_BadExact := rfl
      rw [xa, xc]
      simp only [FD.sSeq_ap, FD.sNext_ap, FD.sBrk_ap, FD.sCont_ap, FD.sIf_ap, FD.sSet_ap, FD.sSetL_ap, FD.sDrop_ap, FD.sRet_ap, FD.sRetN_ap, FD.sFor_ap, FD.sAsg_ap, FD.sRaise_ap, FD.sAppend_ap, FD.sSetIx_ap, FD.eC_ap, FD.eVar_0, FD.eVar_s, FD.e1_ap, FD.e2_ap, FD.t1_ap, FD.t2_ap, FD.eT_ap, FD.tAnd_ap, FD.tOr_ap, FD.tNot_ap, FD.eIf_ap, FD.aNil_ap, FD.aCons_ap, FD.eTup_ap, FD.lLst_ap, FD.eL_ap, FD.eB_ap, FD.eCallR_ap, FD.eAnd_ap, FD.eOr_ap, FD.eNot_ap, FD.eChain_ap, FD.oSeq_ap, FD.oRange_ap, FD.oNone_ap, FD.oInt_ap, FD.lCut_ap, FD.gCutL_lst, FD.gCutL_fls, FD.frzD_int, FD.frzD_bl, FD.frzD_str, FD.frzD_non, FD.frzD_nil, FD.frzD_lst, FD.frzD_fls, FD.outS_nx, FD.outS_rt, FD.outS_exc, FD.runD_eq, FD.Out.bind_ok, FD.Out.bind_exc, FD.Out.bind_bad, FD.stE_ok, FD.stE_exc, FD.stE_bad, FD.andThen_nx, FD.andThen_bk, FD.andThen_ct, FD.andThen_rt, FD.andThen_exc, FD.andThen_bad, FD.ofO_some, FD.ofO_none, FD.Lo.d_sh, FD.Lo.d_ol, FD.Lo.d_od, FD.frz_nil, FD.frz_cons, FD.frz1_0, FD.frz1_n, FD.frz1_s, FD.uName_ap, FD.uTup_ap, FD.uCons_ap, FD.uNil_ap, FD.turn_nx, FD.turn_ct, FD.turn_bk, FD.turn_rt, FD.turn_exc, FD.forD_nil, FD.forD_n, FD.atI_0, FD.atI_1, FD.atI_2, FD.atI_3, FD.unset_rt, FD.unset_nx, FD.unset_bk, FD.unset_ct, Option.bind_some, Option.map_some, FD.gI_int, FD.gI0_int, FD.cI_int, FD.gAdd_int, FD.gNeg_int, FD.eqD_int, FD.eqD_str, FD.eqD_bl, FD.eqD_non, FD.neg2_eq, FD.blD_bl, FD.truD_non, FD.truD_bl, FD.truD_int, FD.truD_tup, FD.truD_lst, FD.truD_fls, FD.truD_dic, FD.Dt.seq_tup, FD.Dt.seq_lst, FD.Dt.seq_fls, FD.gLen_tup, FD.gLen_lst, FD.gLen_fls, FD.gInt_int, FD.gInt_bl, FD.gAbs_int, FD.gGcd_int, FD.gIntA_int, FD.gIntA_bl, FD.gIx_tup, FD.gIx_lst, FD.gIx_fls, FD.isi_int_int, FD.isi_int_bool, FD.isi_bool_int, FD.isi_bool_bool, FD.isi_tup, FD.isi_lst, List.map_cons, List.map_nil, List.length_cons, List.length_nil, List.cons_append, List.nil_append, List.set_cons_zero, List.set_cons_succ, List.getElem?_cons_zero, List.getElem?_cons_succ, Nat.reduceAdd, Nat.reduceSub, Nat.zero_add, Nat.sub_self, List.replicate_zero, List.replicate_succ, Nat.reduceLeDiff, if_true, if_false, Bool.false_eq_true, Bool.not_true, Bool.not_false, decide_eq_true_eq, gIsX_cls T.i_BadExact_ZeroDenominator, gIsX_cls T.i_BadExact_Unfit, gIsX_cls T.i_BadExact_NoAnswer, gIsX_cls T.i_BadExact_Refused, gIsX_cls T.i_BadExact_HouseError, gIsX_ty T.i_BadExact_ValueError, eqD_nil, gXf_1, isi_str, et, z0]
    simp only [FD.sSeq_ap, FD.sNext_ap, FD.sBrk_ap, FD.sCont_ap, FD.sIf_ap, FD.sSet_ap, FD.sSetL_ap, FD.sDrop_ap, FD.sRet_ap, FD.sRetN_ap, FD.sFor_ap, FD.sAsg_ap, FD.sRaise_ap, FD.sAppend_ap, FD.sSetIx_ap, FD.eC_ap, FD.eVar_0, FD.eVar_s, FD.e1_ap, FD.e2_ap, FD.t1_ap, FD.t2_ap, FD.eT_ap, FD.tAnd_ap, FD.tOr_ap, FD.tNot_ap, FD.eIf_ap, FD.aNil_ap, FD.aCons_ap, FD.eTup_ap, FD.lLst_ap, FD.eL_ap, FD.eB_ap, FD.eCallR_ap, FD.eAnd_ap, FD.eOr_ap, FD.eNot_ap, FD.eChain_ap, FD.oSeq_ap, FD.oRange_ap, FD.oNone_ap, FD.oInt_ap, FD.lCut_ap, FD.gCutL_lst, FD.gCutL_fls, FD.frzD_int, FD.frzD_bl, FD.frzD_str, FD.frzD_non, FD.frzD_nil, FD.frzD_lst, FD.frzD_fls, FD.outS_nx, FD.outS_rt, FD.outS_exc, FD.runD_eq, FD.Out.bind_ok, FD.Out.bind_exc, FD.Out.bind_bad, FD.stE_ok, FD.stE_exc, FD.stE_bad, FD.andThen_nx, FD.andThen_bk, FD.andThen_ct, FD.andThen_rt, FD.andThen_exc, FD.andThen_bad, FD.ofO_some, FD.ofO_none, FD.Lo.d_sh, FD.Lo.d_ol, FD.Lo.d_od, FD.frz_nil, FD.frz_cons, FD.frz1_0, FD.frz1_n, FD.frz1_s, FD.uName_ap, FD.uTup_ap, FD.uCons_ap, FD.uNil_ap, FD.turn_nx, FD.turn_ct, FD.turn_bk, FD.turn_rt, FD.turn_exc, FD.forD_nil, FD.forD_n, FD.atI_0, FD.atI_1, FD.atI_2, FD.atI_3, FD.unset_rt, FD.unset_nx, FD.unset_bk, FD.unset_ct, Option.bind_some, Option.map_some, FD.gI_int, FD.gI0_int, FD.cI_int, FD.gAdd_int, FD.gNeg_int, FD.eqD_int, FD.eqD_str, FD.eqD_bl, FD.eqD_non, FD.neg2_eq, FD.blD_bl, FD.truD_non, FD.truD_bl, FD.truD_int, FD.truD_tup, FD.truD_lst, FD.truD_fls, FD.truD_dic, FD.Dt.seq_tup, FD.Dt.seq_lst, FD.Dt.seq_fls, FD.gLen_tup, FD.gLen_lst, FD.gLen_fls, FD.gInt_int, FD.gInt_bl, FD.gAbs_int, FD.gGcd_int, FD.gIntA_int, FD.gIntA_bl, FD.gIx_tup, FD.gIx_lst, FD.gIx_fls, FD.isi_int_int, FD.isi_int_bool, FD.isi_bool_int, FD.isi_bool_bool, FD.isi_tup, FD.isi_lst, List.map_cons, List.map_nil, List.length_cons, List.length_nil, List.cons_append, List.nil_append, List.set_cons_zero, List.set_cons_succ, List.getElem?_cons_zero, List.getElem?_cons_succ, Nat.reduceAdd, Nat.reduceSub, Nat.zero_add, Nat.sub_self, List.replicate_zero, List.replicate_succ, Nat.reduceLeDiff, if_true, if_false, Bool.false_eq_true, Bool.not_true, Bool.not_false, decide_eq_true_eq]
  · simp only [FD.sSeq_ap, FD.sNext_ap, FD.sBrk_ap, FD.sCont_ap, FD.sIf_ap, FD.sSet_ap, FD.sSetL_ap, FD.sDrop_ap, FD.sRet_ap, FD.sRetN_ap, FD.sFor_ap, FD.sAsg_ap, FD.sRaise_ap, FD.sAppend_ap, FD.sSetIx_ap, FD.eC_ap, FD.eVar_0, FD.eVar_s, FD.e1_ap, FD.e2_ap, FD.t1_ap, FD.t2_ap, FD.eT_ap, FD.tAnd_ap, FD.tOr_ap, FD.tNot_ap, FD.eIf_ap, FD.aNil_ap, FD.aCons_ap, FD.eTup_ap, FD.lLst_ap, FD.eL_ap, FD.eB_ap, FD.eCallR_ap, FD.eAnd_ap, FD.eOr_ap, FD.eNot_ap, FD.eChain_ap, FD.oSeq_ap, FD.oRange_ap, FD.oNone_ap, FD.oInt_ap, FD.lCut_ap, FD.gCutL_lst, FD.gCutL_fls, FD.frzD_int, FD.frzD_bl, FD.frzD_str, FD.frzD_non, FD.frzD_nil, FD.frzD_lst, FD.frzD_fls, FD.outS_nx, FD.outS_rt, FD.outS_exc, FD.runD_eq, FD.Out.bind_ok, FD.Out.bind_exc, FD.Out.bind_bad, FD.stE_ok, FD.stE_exc, FD.stE_bad, FD.andThen_nx, FD.andThen_bk, FD.andThen_ct, FD.andThen_rt, FD.andThen_exc, FD.andThen_bad, FD.ofO_some, FD.ofO_none, FD.Lo.d_sh, FD.Lo.d_ol, FD.Lo.d_od, FD.frz_nil, FD.frz_cons, FD.frz1_0, FD.frz1_n, FD.frz1_s, FD.uName_ap, FD.uTup_ap, FD.uCons_ap, FD.uNil_ap, FD.turn_nx, FD.turn_ct, FD.turn_bk, FD.turn_rt, FD.turn_exc, FD.forD_nil, FD.forD_n, FD.atI_0, FD.atI_1, FD.atI_2, FD.atI_3, FD.unset_rt, FD.unset_nx, FD.unset_bk, FD.unset_ct, Option.bind_some, Option.map_some, FD.gI_int, FD.gI0_int, FD.cI_int, FD.gAdd_int, FD.gNeg_int, FD.eqD_int, FD.eqD_str, FD.eqD_bl, FD.eqD_non, FD.neg2_eq, FD.blD_bl, FD.truD_non, FD.truD_bl, FD.truD_int, FD.truD_tup, FD.truD_lst, FD.truD_fls, FD.truD_dic, FD.Dt.seq_tup, FD.Dt.seq_lst, FD.Dt.seq_fls, FD.gLen_tup, FD.gLen_lst, FD.gLen_fls, FD.gInt_int, FD.gInt_bl, FD.gAbs_int, FD.gGcd_int, FD.gIntA_int, FD.gIntA_bl, FD.gIx_tup, FD.gIx_lst, FD.gIx_fls, FD.isi_int_int, FD.isi_int_bool, FD.isi_bool_int, FD.isi_bool_bool, FD.isi_tup, FD.isi_lst, List.map_cons, List.map_nil, List.length_cons, List.length_nil, List.cons_append, List.nil_append, List.set_cons_zero, List.set_cons_succ, List.getElem?_cons_zero, List.getElem?_cons_succ, Nat.reduceAdd, Nat.reduceSub, Nat.zero_add, Nat.sub_self, List.replicate_zero, List.replicate_succ, Nat.reduceLeDiff, if_true, if_false, Bool.false_eq_true, Bool.not_true, Bool.not_false, decide_eq_true_eq, h1]
    have hw : 10 ^ 40 ≤ W60 ^ 10 := by
      rw [W60_val, ← Nat.pow_mul]
      exact Nat.pow_le_pow_right (by decide) (by decide)
    have ex := e_exact_text (K := K) (cs := cs) (n := q.num) (d := (q.den : Int)) (by omega) (by rw [Int.natAbs_natCast]; omega)
    have ef : Dt.tup [.int q.num, .int (q.den : Int)] = fr q := rfl
    rw [ef, h3] at ex
    have n2 : neD (.int 2) (.int 2) = some false := rfl
    rw [sTryAs_ok (f := .nx) (ρ1 := [some (.sh (.str (S t))), some (.sh (.lst [.int q.num, .int (q.den : Int)])), some (.sh (fr q)), none, none, none, none]) ?g]
    case g => simp only [FD.sSeq_ap, FD.sNext_ap, FD.sBrk_ap, FD.sCont_ap, FD.sIf_ap, FD.sSet_ap, FD.sSetL_ap, FD.sDrop_ap, FD.sRet_ap, FD.sRetN_ap, FD.sFor_ap, FD.sAsg_ap, FD.sRaise_ap, FD.sAppend_ap, FD.sSetIx_ap, FD.eC_ap, FD.eVar_0, FD.eVar_s, FD.e1_ap, FD.e2_ap, FD.t1_ap, FD.t2_ap, FD.eT_ap, FD.tAnd_ap, FD.tOr_ap, FD.tNot_ap, FD.eIf_ap, FD.aNil_ap, FD.aCons_ap, FD.eTup_ap, FD.lLst_ap, FD.eL_ap, FD.eB_ap, FD.eCallR_ap, FD.eAnd_ap, FD.eOr_ap, FD.eNot_ap, FD.eChain_ap, FD.oSeq_ap, FD.oRange_ap, FD.oNone_ap, FD.oInt_ap, FD.lCut_ap, FD.gCutL_lst, FD.gCutL_fls, FD.frzD_int, FD.frzD_bl, FD.frzD_str, FD.frzD_non, FD.frzD_nil, FD.frzD_lst, FD.frzD_fls, FD.outS_nx, FD.outS_rt, FD.outS_exc, FD.runD_eq, FD.Out.bind_ok, FD.Out.bind_exc, FD.Out.bind_bad, FD.stE_ok, FD.stE_exc, FD.stE_bad, FD.andThen_nx, FD.andThen_bk, FD.andThen_ct, FD.andThen_rt, FD.andThen_exc, FD.andThen_bad, FD.ofO_some, FD.ofO_none, FD.Lo.d_sh, FD.Lo.d_ol, FD.Lo.d_od, FD.frz_nil, FD.frz_cons, FD.frz1_0, FD.frz1_n, FD.frz1_s, FD.uName_ap, FD.uTup_ap, FD.uCons_ap, FD.uNil_ap, FD.turn_nx, FD.turn_ct, FD.turn_bk, FD.turn_rt, FD.turn_exc, FD.forD_nil, FD.forD_n, FD.atI_0, FD.atI_1, FD.atI_2, FD.atI_3, FD.unset_rt, FD.unset_nx, FD.unset_bk, FD.unset_ct, Option.bind_some, Option.map_some, FD.gI_int, FD.gI0_int, FD.cI_int, FD.gAdd_int, FD.gNeg_int, FD.eqD_int, FD.eqD_str, FD.eqD_bl, FD.eqD_non, FD.neg2_eq, FD.blD_bl, FD.truD_non, FD.truD_bl, FD.truD_int, FD.truD_tup, FD.truD_lst, FD.truD_fls, FD.truD_dic, FD.Dt.seq_tup, FD.Dt.seq_lst, FD.Dt.seq_fls, FD.gLen_tup, FD.gLen_lst, FD.gLen_fls, FD.gInt_int, FD.gInt_bl, FD.gAbs_int, FD.gGcd_int, FD.gIntA_int, FD.gIntA_bl, FD.gIx_tup, FD.gIx_lst, FD.gIx_fls, FD.isi_int_int, FD.isi_int_bool, FD.isi_bool_int, FD.isi_bool_bool, FD.isi_tup, FD.isi_lst, List.map_cons, List.map_nil, List.length_cons, List.length_nil, List.cons_append, List.nil_append, List.set_cons_zero, List.set_cons_succ, List.getElem?_cons_zero, List.getElem?_cons_succ, Nat.reduceAdd, Nat.reduceSub, Nat.zero_add, Nat.sub_self, List.replicate_zero, List.replicate_succ, Nat.reduceLeDiff, if_true, if_false, Bool.false_eq_true, Bool.not_true, Bool.not_false, decide_eq_true_eq, h2, frz_fr]
    simp only [FD.sSeq_ap, FD.sNext_ap, FD.sBrk_ap, FD.sCont_ap, FD.sIf_ap, FD.sSet_ap, FD.sSetL_ap, FD.sDrop_ap, FD.sRet_ap, FD.sRetN_ap, FD.sFor_ap, FD.sAsg_ap, FD.sRaise_ap, FD.sAppend_ap, FD.sSetIx_ap, FD.eC_ap, FD.eVar_0, FD.eVar_s, FD.e1_ap, FD.e2_ap, FD.t1_ap, FD.t2_ap, FD.eT_ap, FD.tAnd_ap, FD.tOr_ap, FD.tNot_ap, FD.eIf_ap, FD.aNil_ap, FD.aCons_ap, FD.eTup_ap, FD.lLst_ap, FD.eL_ap, FD.eB_ap, FD.eCallR_ap, FD.eAnd_ap, FD.eOr_ap, FD.eNot_ap, FD.eChain_ap, FD.oSeq_ap, FD.oRange_ap, FD.oNone_ap, FD.oInt_ap, FD.lCut_ap, FD.gCutL_lst, FD.gCutL_fls, FD.frzD_int, FD.frzD_bl, FD.frzD_str, FD.frzD_non, FD.frzD_nil, FD.frzD_lst, FD.frzD_fls, FD.outS_nx, FD.outS_rt, FD.outS_exc, FD.runD_eq, FD.Out.bind_ok, FD.Out.bind_exc, FD.Out.bind_bad, FD.stE_ok, FD.stE_exc, FD.stE_bad, FD.andThen_nx, FD.andThen_bk, FD.andThen_ct, FD.andThen_rt, FD.andThen_exc, FD.andThen_bad, FD.ofO_some, FD.ofO_none, FD.Lo.d_sh, FD.Lo.d_ol, FD.Lo.d_od, FD.frz_nil, FD.frz_cons, FD.frz1_0, FD.frz1_n, FD.frz1_s, FD.uName_ap, FD.uTup_ap, FD.uCons_ap, FD.uNil_ap, FD.turn_nx, FD.turn_ct, FD.turn_bk, FD.turn_rt, FD.turn_exc, FD.forD_nil, FD.forD_n, FD.atI_0, FD.atI_1, FD.atI_2, FD.atI_3, FD.unset_rt, FD.unset_nx, FD.unset_bk, FD.unset_ct, Option.bind_some, Option.map_some, FD.gI_int, FD.gI0_int, FD.cI_int, FD.gAdd_int, FD.gNeg_int, FD.eqD_int, FD.eqD_str, FD.eqD_bl, FD.eqD_non, FD.neg2_eq, FD.blD_bl, FD.truD_non, FD.truD_bl, FD.truD_int, FD.truD_tup, FD.truD_lst, FD.truD_fls, FD.truD_dic, FD.Dt.seq_tup, FD.Dt.seq_lst, FD.Dt.seq_fls, FD.gLen_tup, FD.gLen_lst, FD.gLen_fls, FD.gInt_int, FD.gInt_bl, FD.gAbs_int, FD.gGcd_int, FD.gIntA_int, FD.gIntA_bl, FD.gIx_tup, FD.gIx_lst, FD.gIx_fls, FD.isi_int_int, FD.isi_int_bool, FD.isi_bool_int, FD.isi_bool_bool, FD.isi_tup, FD.isi_lst, List.map_cons, List.map_nil, List.length_cons, List.length_nil, List.cons_append, List.nil_append, List.set_cons_zero, List.set_cons_succ, List.getElem?_cons_zero, List.getElem?_cons_succ, Nat.reduceAdd, Nat.reduceSub, Nat.zero_add, Nat.sub_self, List.replicate_zero, List.replicate_succ, Nat.reduceLeDiff, if_true, if_false, Bool.false_eq_true, Bool.not_true, Bool.not_false, decide_eq_true_eq, eqD_two, isi_fr, len_fr, n2, ix0, ix1, e_is_integer, neD_int, beq_self_eq_true, ex, isi_str, et, z0]
end Lk01

set_option exponentiation.threshold 4000
namespace Lk01
open PySem L2 FD SX TL
variable {K : PySem.W.Frag} {cs : Cs}
/-! ### the law's number, its text -/
theorem pw (a b : Int) (h : powB a b = true) : gI powB (fun i j => i ^ j.toNat) (.int a) (.int b) = some (.int (a ^ b.toNat)) := by
  rw [gI_int, if_pos h]
theorem lim5 (z : Int) : ∃ l : Int, atI [Dt.int (10 ^ 40), .int 10, .int 100, .int (10 ^ 9), .int (10 ^ 39)] (z.fmod 5) = some (.int l) ∧ 10 ≤ l ∧ l ≤ 10 ^ 40 := by
  have h0 := Int.fmod_nonneg_of_pos z (show (0 : Int) < 5 by decide)
  have h1 := Int.fmod_lt_of_pos z (show (0 : Int) < 5 by decide)
  have h : z.fmod 5 = 0 ∨ z.fmod 5 = 1 ∨ z.fmod 5 = 2 ∨ z.fmod 5 = 3 ∨ z.fmod 5 = 4 := by omega
  rcases h with h | h | h | h | h <;> rw [h]
  · exact ⟨_, rfl, by decide, by decide⟩
  · exact ⟨_, rfl, by decide, by decide⟩
  · exact ⟨_, rfl, by decide, by decide⟩
  · exact ⟨_, rfl, by decide, by decide⟩
  · exact ⟨_, rfl, by decide, by decide⟩
theorem lowest_pos {n d : Int} (hd : 0 < d) : n.fdiv ((Nat.gcd n.natAbs d.natAbs : Nat) : Int) = (Rat.divInt n d).num ∧ d.fdiv ((Nat.gcd n.natAbs d.natAbs : Nat) : Int) = ((Rat.divInt n d).den : Int) :=
  fr_of (n := n) (by omega) _ (if_neg (by omega)).symm
theorem e_number (ns : List Int) : ∃ q : Rat, m__law_number K cs [.fls (ns.map .int)] = .ok (fr q) ∧ q.num.natAbs < 10 ^ 61 ∧ q.den < 10 ^ 61 := by
  obtain ⟨c0, k0⟩ := e_cell (K := K) (cs := cs) ns (k := 0) (by decide) (by decide)
  obtain ⟨c1, k1⟩ := e_cell (K := K) (cs := cs) ns (k := 1) (by decide) (by decide)
  obtain ⟨c2, k2⟩ := e_cell (K := K) (cs := cs) ns (k := 2) (by decide) (by decide)
  obtain ⟨c3, k3⟩ := e_cell (K := K) (cs := cs) ns (k := 3) (by decide) (by decide)
  obtain ⟨c4, k4⟩ := e_cell (K := K) (cs := cs) ns (k := 4) (by decide) (by decide)
  obtain ⟨c5, k5⟩ := e_cell (K := K) (cs := cs) ns (k := 5) (by decide) (by decide)
  obtain ⟨l, hl, l1, l2⟩ := lim5 c2
  have p1 := pw 10 40 (by decide)
  have p2 := pw 10 9 (by decide)
  have p3 := pw 10 39 (by decide)
  have p4 := pw 10 20 (by decide)
  have q40 : powB 10 40 = true := by decide
  have q9 : powB 10 9 = true := by decide
  have q39 : powB 10 39 = true := by decide
  have q20 : powB 10 20 = true := by decide
  have t1 : Int.toNat 40 = 40 := rfl
  have t2 : Int.toNat 9 = 9 := rfl
  have t3 : Int.toNat 39 = 39 := rfl
  have t4 : Int.toNat 20 = 20 := rfl
  rw [t1] at p1
  rw [t2] at p2
  rw [t3] at p3
  rw [t4] at p4
  have m0 := Int.fmod_nonneg_of_pos c5 (show (0 : Int) < 10 ^ 20 by decide)
  have m1 := Int.fmod_lt_of_pos c5 (show (0 : Int) < 10 ^ 20 by decide)
  have n0 := Int.fmod_nonneg_of_pos (c0.fdiv 2) (show (0 : Int) < l by omega)
  have n1 := Int.fmod_lt_of_pos (c0.fdiv 2) (show (0 : Int) < l by omega)
  have d0 := Int.fmod_nonneg_of_pos c1 (show (0 : Int) < l - 1 by omega)
  have d1 := Int.fmod_lt_of_pos c1 (show (0 : Int) < l - 1 by omega)
  have mm : mulB (10 ^ 40) (1 + c5.fmod (10 ^ 20)) = true := mulB_of (m := 200) (n := 200) (by unfold Bd; decide) (by unfold Bd; omega) (by decide)
  have z2 : (2 : Int) ≠ 0 := by decide
  have z3 : (3 : Int) ≠ 0 := by decide
  have z5 : (5 : Int) ≠ 0 := by decide
  have z8 : (8 : Int) ≠ 0 := by decide
  have zl : l ≠ 0 := by omega
  have zl1 : l - 1 ≠ 0 := by omega
  have z20 : (10 : Int) ^ 20 ≠ 0 := by decide
  have dv2 : ∀ i, divB i 2 = true := fun i => divB_of (m := 2) z2 (by unfold Bd; decide) (by decide)
  -- the four choices
  have key : ∀ n d : Int, n.natAbs < 10 ^ 61 → 0 < d → d < 10 ^ 61 → m__law_shared K cs [.int n, .int d] = .ok (.int ((Nat.gcd n.natAbs d.natAbs : Nat) : Int)) ∧ (∀ i, divB i ((Nat.gcd n.natAbs d.natAbs : Nat) : Int) = true) ∧ n.fdiv ((Nat.gcd n.natAbs d.natAbs : Nat) : Int) = (Rat.divInt n d).num ∧ d.fdiv ((Nat.gcd n.natAbs d.natAbs : Nat) : Int) = ((Rat.divInt n d).den : Int) ∧
      (Rat.divInt n d).num.natAbs < 10 ^ 61 ∧ (Rat.divInt n d).den < 10 ^ 61 := by
    intro n d hn hd hd2
    have bd : Bd 290 d := by
      unfold Bd
      have : (10 : Nat) ^ 61 < 2 ^ 290 := by decide
      omega
    obtain ⟨gb, g0⟩ := gcd_bd (n := n) (by omega : d ≠ 0) bd
    obtain ⟨f1, f2⟩ := lowest_pos (n := n) hd
    have h1 := num_le n (by omega : d ≠ 0)
    have h2 := den_le n (by omega : d ≠ 0)
    exact ⟨e_shared bd, fun i => divB_of g0 gb (by decide), f1, f2, by omega, by omega⟩
  have fin : ∀ n d : Int, n.natAbs < 10 ^ 61 → 0 < d → d < 10 ^ 61 → m__law_number K cs [.fls (ns.map .int)] = .ok (.tup [.int (n.fdiv ((Nat.gcd n.natAbs d.natAbs : Nat) : Int)), .int (d.fdiv ((Nat.gcd n.natAbs d.natAbs : Nat) : Int))]) → ∃ q : Rat, m__law_number K cs [.fls (ns.map .int)] = .ok (fr q) ∧ q.num.natAbs < 10 ^ 61 ∧ q.den < 10 ^ 61 := by
    intro n d hn hd hd2 h
    obtain ⟨_, _, f1, f2, f3, f4⟩ := key n d hn hd hd2
    rw [f1, f2] at h
    exact ⟨Rat.divInt n d, h, f3, f4⟩
  have dd : ∀ i : Int, 0 ≤ i → i < l - 1 → 0 < 1 + i ∧ 1 + i < 10 ^ 61 := fun i h0 h1 => by
    have : (10 : Int) ^ 40 < 10 ^ 61 := by decide
    omega
  generalize hN : (c0.fdiv 2).fmod l = N at *
  generalize hD : c1.fmod (l - 1) = D at *
  generalize hM : (10 : Int) ^ 40 * (1 + c5.fmod (10 ^ 20)) = M at *
  have hMb : 0 ≤ M ∧ M ≤ 10 ^ 60 := by
    rw [← hM]
    have e : (10 : Int) ^ 60 = 10 ^ 40 * 10 ^ 20 := by decide
    constructor
    · exact Int.mul_nonneg (by decide) (by omega)
    · rw [e]
      exact Int.mul_le_mul_of_nonneg_left (by omega) (by decide)
  have big : (10 : Int) ^ 40 + 10 ^ 60 < 10 ^ 61 := by decide
  have bigN : ((10 ^ 61 : Nat) : Int) = (10 : Int) ^ 61 := by decide
  unfold m__law_number argN b__law_number at *
  by_cases hA : 0 < c3.fmod 3 <;> by_cases hB : (c4.fmod 8 == 6) = true <;> by_cases hC : (c4.fmod 8 == 7) = true <;> by_cases hE : (c0.fmod 2 == 1) = true
  all_goals
    have b1 : (if (c0.fmod 2 == 1) = true then -(if (c4.fmod 8 == 6) = true then N + M else N) else (if (c4.fmod 8 == 6) = true then N + M else N)).natAbs < 10 ^ 61 := by
      simp only [hB, hE, if_true, if_false, Bool.false_eq_true]
      omega
    have b2 : 0 < (if (c4.fmod 8 == 7) = true then (if 0 < c3.fmod 3 then 1 + D else 1) + M else (if 0 < c3.fmod 3 then 1 + D else 1)) := by
      simp only [hA, hC, if_true, if_false, Bool.false_eq_true]
      omega
    have b3 : (if (c4.fmod 8 == 7) = true then (if 0 < c3.fmod 3 then 1 + D else 1) + M else (if 0 < c3.fmod 3 then 1 + D else 1)) < 10 ^ 61 := by
      simp only [hA, hC, if_true, if_false, Bool.false_eq_true]
      omega
    have kk := key _ _ b1 b2 b3
    refine fin _ _ b1 b2 b3 ?_
    simp only [hA, hB, hC, hE, if_true, if_false, Bool.false_eq_true] at kk ⊢
    obtain ⟨s1, s2, _⟩ := kk
    simp only [FD.sSeq_ap, FD.sNext_ap, FD.sBrk_ap, FD.sCont_ap, FD.sIf_ap, FD.sSet_ap, FD.sSetL_ap, FD.sDrop_ap, FD.sRet_ap, FD.sRetN_ap, FD.sFor_ap, FD.sAsg_ap, FD.sRaise_ap, FD.sAppend_ap, FD.sSetIx_ap, FD.eC_ap, FD.eVar_0, FD.eVar_s, FD.e1_ap, FD.e2_ap, FD.t1_ap, FD.t2_ap, FD.eT_ap, FD.tAnd_ap, FD.tOr_ap, FD.tNot_ap, FD.eIf_ap, FD.aNil_ap, FD.aCons_ap, FD.eTup_ap, FD.lLst_ap, FD.eL_ap, FD.eB_ap, FD.eCallR_ap, FD.eAnd_ap, FD.eOr_ap, FD.eNot_ap, FD.eChain_ap, FD.oSeq_ap, FD.oRange_ap, FD.oNone_ap, FD.oInt_ap, FD.lCut_ap, FD.gCutL_lst, FD.gCutL_fls, FD.frzD_int, FD.frzD_bl, FD.frzD_str, FD.frzD_non, FD.frzD_nil, FD.frzD_lst, FD.frzD_fls, FD.outS_nx, FD.outS_rt, FD.outS_exc, FD.runD_eq, FD.Out.bind_ok, FD.Out.bind_exc, FD.Out.bind_bad, FD.stE_ok, FD.stE_exc, FD.stE_bad, FD.andThen_nx, FD.andThen_bk, FD.andThen_ct, FD.andThen_rt, FD.andThen_exc, FD.andThen_bad, FD.ofO_some, FD.ofO_none, FD.Lo.d_sh, FD.Lo.d_ol, FD.Lo.d_od, FD.frz_nil, FD.frz_cons, FD.frz1_0, FD.frz1_n, FD.frz1_s, FD.uName_ap, FD.uTup_ap, FD.uCons_ap, FD.uNil_ap, FD.turn_nx, FD.turn_ct, FD.turn_bk, FD.turn_rt, FD.turn_exc, FD.forD_nil, FD.forD_n, FD.atI_0, FD.atI_1, FD.atI_2, FD.atI_3, FD.unset_rt, FD.unset_nx, FD.unset_bk, FD.unset_ct, Option.bind_some, Option.map_some, FD.gI_int, FD.gI0_int, FD.cI_int, FD.gAdd_int, FD.gNeg_int, FD.eqD_int, FD.eqD_str, FD.eqD_bl, FD.eqD_non, FD.neg2_eq, FD.blD_bl, FD.truD_non, FD.truD_bl, FD.truD_int, FD.truD_tup, FD.truD_lst, FD.truD_fls, FD.truD_dic, FD.Dt.seq_tup, FD.Dt.seq_lst, FD.Dt.seq_fls, FD.gLen_tup, FD.gLen_lst, FD.gLen_fls, FD.gInt_int, FD.gInt_bl, FD.gAbs_int, FD.gGcd_int, FD.gIntA_int, FD.gIntA_bl, FD.gIx_tup, FD.gIx_lst, FD.gIx_fls, FD.isi_int_int, FD.isi_int_bool, FD.isi_bool_int, FD.isi_bool_bool, FD.isi_tup, FD.isi_lst, List.map_cons, List.map_nil, List.length_cons, List.length_nil, List.cons_append, List.nil_append, List.set_cons_zero, List.set_cons_succ, List.getElem?_cons_zero, List.getElem?_cons_succ, Nat.reduceAdd, Nat.reduceSub, Nat.zero_add, Nat.sub_self, List.replicate_zero, List.replicate_succ, Nat.reduceLeDiff, if_true, if_false, Bool.false_eq_true, Bool.not_true, Bool.not_false, decide_eq_true_eq, q40, q9, q39, q20, t1, t2, t3, t4, k0, k1, k2, k3, k4, k5, hl, hN, hD, hM, mm, dv2, nzB_of z2, nzB_of z3, nzB_of z5, nzB_of z8, nzB_of zl, nzB_of zl1, nzB_of z20, hA, hB, hC, hE, decide_true, decide_false, s1, s2, Nat.reduceLeDiff]
end Lk01

set_option exponentiation.threshold 4000
namespace Lk01
open PySem L2 FD SX TL
variable {K : PySem.W.Frag} {cs : Cs}
theorem bd61 {i : Int} (h : i.natAbs < 10 ^ 61) : Bd 1900 i := Nat.lt_trans h (by decide)
theorem W61 : 10 ^ 61 ≤ W60 ^ 10 := by
  rw [W60_val, ← Nat.pow_mul]
  exact Nat.pow_le_pow_right (by decide) (by decide)
theorem e_law_text {q : Rat} (h1 : q.num.natAbs < 10 ^ 61) (h2 : q.den < 10 ^ 61) : m__law_text K cs [fr q] = .ok (.str (S (textL q.num (q.den : Int)))) := by
  unfold m__law_text argN b__law_text textL
  have g1 := g_str (bd61 h1)
  have g2 := g_str (bd61 (i := (q.den : Int)) (by rw [Int.natAbs_natCast]; exact h2))
  have l1 := numI_len (n := q.num) (Nat.lt_of_lt_of_le h1 W61)
  have l2 := numI_len (n := (q.den : Int)) (by rw [Int.natAbs_natCast]; exact Nat.lt_of_lt_of_le h2 W61)
  by_cases h : (q.den : Int) = 1
  · have nd : neD (.int (q.den : Int)) (.int 1) = some false := by rw [neD_int, h]; rfl
    rw [if_pos h]
    simp only [FD.sSeq_ap, FD.sNext_ap, FD.sBrk_ap, FD.sCont_ap, FD.sIf_ap, FD.sSet_ap, FD.sSetL_ap, FD.sDrop_ap, FD.sRet_ap, FD.sRetN_ap, FD.sFor_ap, FD.sAsg_ap, FD.sRaise_ap, FD.sAppend_ap, FD.sSetIx_ap, FD.eC_ap, FD.eVar_0, FD.eVar_s, FD.e1_ap, FD.e2_ap, FD.t1_ap, FD.t2_ap, FD.eT_ap, FD.tAnd_ap, FD.tOr_ap, FD.tNot_ap, FD.eIf_ap, FD.aNil_ap, FD.aCons_ap, FD.eTup_ap, FD.lLst_ap, FD.eL_ap, FD.eB_ap, FD.eCallR_ap, FD.eAnd_ap, FD.eOr_ap, FD.eNot_ap, FD.eChain_ap, FD.oSeq_ap, FD.oRange_ap, FD.oNone_ap, FD.oInt_ap, FD.lCut_ap, FD.gCutL_lst, FD.gCutL_fls, FD.frzD_int, FD.frzD_bl, FD.frzD_str, FD.frzD_non, FD.frzD_nil, FD.frzD_lst, FD.frzD_fls, FD.outS_nx, FD.outS_rt, FD.outS_exc, FD.runD_eq, FD.Out.bind_ok, FD.Out.bind_exc, FD.Out.bind_bad, FD.stE_ok, FD.stE_exc, FD.stE_bad, FD.andThen_nx, FD.andThen_bk, FD.andThen_ct, FD.andThen_rt, FD.andThen_exc, FD.andThen_bad, FD.ofO_some, FD.ofO_none, FD.Lo.d_sh, FD.Lo.d_ol, FD.Lo.d_od, FD.frz_nil, FD.frz_cons, FD.frz1_0, FD.frz1_n, FD.frz1_s, FD.uName_ap, FD.uTup_ap, FD.uCons_ap, FD.uNil_ap, FD.turn_nx, FD.turn_ct, FD.turn_bk, FD.turn_rt, FD.turn_exc, FD.forD_nil, FD.forD_n, FD.atI_0, FD.atI_1, FD.atI_2, FD.atI_3, FD.unset_rt, FD.unset_nx, FD.unset_bk, FD.unset_ct, Option.bind_some, Option.map_some, FD.gI_int, FD.gI0_int, FD.cI_int, FD.gAdd_int, FD.gNeg_int, FD.eqD_int, FD.eqD_str, FD.eqD_bl, FD.eqD_non, FD.neg2_eq, FD.blD_bl, FD.truD_non, FD.truD_bl, FD.truD_int, FD.truD_tup, FD.truD_lst, FD.truD_fls, FD.truD_dic, FD.Dt.seq_tup, FD.Dt.seq_lst, FD.Dt.seq_fls, FD.gLen_tup, FD.gLen_lst, FD.gLen_fls, FD.gInt_int, FD.gInt_bl, FD.gAbs_int, FD.gGcd_int, FD.gIntA_int, FD.gIntA_bl, FD.gIx_tup, FD.gIx_lst, FD.gIx_fls, FD.isi_int_int, FD.isi_int_bool, FD.isi_bool_int, FD.isi_bool_bool, FD.isi_tup, FD.isi_lst, List.map_cons, List.map_nil, List.length_cons, List.length_nil, List.cons_append, List.nil_append, List.set_cons_zero, List.set_cons_succ, List.getElem?_cons_zero, List.getElem?_cons_succ, Nat.reduceAdd, Nat.reduceSub, Nat.zero_add, Nat.sub_self, List.replicate_zero, List.replicate_succ, Nat.reduceLeDiff, if_true, if_false, Bool.false_eq_true, Bool.not_true, Bool.not_false, decide_eq_true_eq, ix0, ix1, g1, nd]
  · have nd : neD (.int (q.den : Int)) (.int 1) = some true := by
      rw [neD_int]
      have : ((q.den : Int) == 1) = false := by simpa using h
      rw [this]
      rfl
    rw [if_neg h]
    have c1 := g_cat (a := numI q.num) (b := [47]) (by simp; omega)
    have c2 := g_cat (a := numI q.num ++ [47]) (b := numI (q.den : Int)) (by simp; omega)
    simp only [FD.sSeq_ap, FD.sNext_ap, FD.sBrk_ap, FD.sCont_ap, FD.sIf_ap, FD.sSet_ap, FD.sSetL_ap, FD.sDrop_ap, FD.sRet_ap, FD.sRetN_ap, FD.sFor_ap, FD.sAsg_ap, FD.sRaise_ap, FD.sAppend_ap, FD.sSetIx_ap, FD.eC_ap, FD.eVar_0, FD.eVar_s, FD.e1_ap, FD.e2_ap, FD.t1_ap, FD.t2_ap, FD.eT_ap, FD.tAnd_ap, FD.tOr_ap, FD.tNot_ap, FD.eIf_ap, FD.aNil_ap, FD.aCons_ap, FD.eTup_ap, FD.lLst_ap, FD.eL_ap, FD.eB_ap, FD.eCallR_ap, FD.eAnd_ap, FD.eOr_ap, FD.eNot_ap, FD.eChain_ap, FD.oSeq_ap, FD.oRange_ap, FD.oNone_ap, FD.oInt_ap, FD.lCut_ap, FD.gCutL_lst, FD.gCutL_fls, FD.frzD_int, FD.frzD_bl, FD.frzD_str, FD.frzD_non, FD.frzD_nil, FD.frzD_lst, FD.frzD_fls, FD.outS_nx, FD.outS_rt, FD.outS_exc, FD.runD_eq, FD.Out.bind_ok, FD.Out.bind_exc, FD.Out.bind_bad, FD.stE_ok, FD.stE_exc, FD.stE_bad, FD.andThen_nx, FD.andThen_bk, FD.andThen_ct, FD.andThen_rt, FD.andThen_exc, FD.andThen_bad, FD.ofO_some, FD.ofO_none, FD.Lo.d_sh, FD.Lo.d_ol, FD.Lo.d_od, FD.frz_nil, FD.frz_cons, FD.frz1_0, FD.frz1_n, FD.frz1_s, FD.uName_ap, FD.uTup_ap, FD.uCons_ap, FD.uNil_ap, FD.turn_nx, FD.turn_ct, FD.turn_bk, FD.turn_rt, FD.turn_exc, FD.forD_nil, FD.forD_n, FD.atI_0, FD.atI_1, FD.atI_2, FD.atI_3, FD.unset_rt, FD.unset_nx, FD.unset_bk, FD.unset_ct, Option.bind_some, Option.map_some, FD.gI_int, FD.gI0_int, FD.cI_int, FD.gAdd_int, FD.gNeg_int, FD.eqD_int, FD.eqD_str, FD.eqD_bl, FD.eqD_non, FD.neg2_eq, FD.blD_bl, FD.truD_non, FD.truD_bl, FD.truD_int, FD.truD_tup, FD.truD_lst, FD.truD_fls, FD.truD_dic, FD.Dt.seq_tup, FD.Dt.seq_lst, FD.Dt.seq_fls, FD.gLen_tup, FD.gLen_lst, FD.gLen_fls, FD.gInt_int, FD.gInt_bl, FD.gAbs_int, FD.gGcd_int, FD.gIntA_int, FD.gIntA_bl, FD.gIx_tup, FD.gIx_lst, FD.gIx_fls, FD.isi_int_int, FD.isi_int_bool, FD.isi_bool_int, FD.isi_bool_bool, FD.isi_tup, FD.isi_lst, List.map_cons, List.map_nil, List.length_cons, List.length_nil, List.cons_append, List.nil_append, List.set_cons_zero, List.set_cons_succ, List.getElem?_cons_zero, List.getElem?_cons_succ, Nat.reduceAdd, Nat.reduceSub, Nat.zero_add, Nat.sub_self, List.replicate_zero, List.replicate_succ, Nat.reduceLeDiff, if_true, if_false, Bool.false_eq_true, Bool.not_true, Bool.not_false, decide_eq_true_eq, ix0, ix1, g1, g2, nd, str_slash, c1, c2]
    simp
/-! repeated signs -/
theorem fold_rep (c : Nat) : ∀ (k : Nat) (a : Array Nat), ((List.replicate k #[c]).foldl (· ++ ·) a).toList = a.toList ++ List.replicate k c
  | 0, a => by simp
  | k + 1, a => by
    rw [List.replicate_succ, List.foldl_cons, fold_rep c k]
    simp [List.replicate_succ]
theorem mul_rep (c : Nat) {k : Int} (h0 : 0 ≤ k) (h1 : k ≤ 6000) : gMulS (.str (S [c])) (.int k) = some (.str (S (List.replicate k.toNat c))) := by
  have hb : mulSB (S [c]) k = true := by
    refine decide_eq_true ⟨by omega, by omega, ?_⟩
    rw [S_len]
    simp only [List.length_cons, List.length_nil]
    omega
  show (if mulSB (S [c]) k = true then some (Dt.str (Txt.mul (S [c]) k)) else none) = _
  rw [if_pos hb]
  congr 2
  apply ext_tl
  unfold Txt.mul
  by_cases hz : k < 1
  · rw [if_pos hz]
    have : k.toNat = 0 := by omega
    rw [this]
    rfl
  · rw [if_neg hz]
    by_cases hk : k = 1
    · subst hk
      rfl
    · have e : (k == 1 || (S [c]).length == 0) = false := by
        rw [S_len]
        simpa using hk
      rw [e, if_neg Bool.false_ne_true]
      show ((List.replicate k.toNat #[c]).foldl (· ++ ·) #[]).toList = _
      rw [fold_rep]
      simp [TL.tl, S]
end Lk01

set_option exponentiation.threshold 4000
-- NODS
namespace Lk01
open PySem L2 FD SX TL
variable {K : PySem.W.Frag} {cs : Cs}
/-! ### the long numbers -/
theorem one_num : numI 1 = [49] := by
  have h : numI 1 = numL 1 := numI_nat 1
  rw [h]
  decide
theorem mone_num : numI (0 - 1) = [45, 49] := by
  have h : numI (0 - 1) = 45 :: numL 1 := by rw [Int.zero_sub]; exact numI_neg (n := 1) (by decide)
  rw [h]
  have h2 : numL 1 = [49] := by decide
  rw [h2]
theorem text_1 {N : Nat} (h : 1 < N) : textL 1 (N : Int) = [49, 47] ++ numL N := by
  unfold textL
  rw [if_neg (by omega), one_num, numI_nat]
  simp only [List.cons_append, List.nil_append]
theorem text_m1 {N : Nat} (h : 1 < N) : textL (0 - 1) (N : Int) = [45, 49, 47] ++ numL N := by
  unfold textL
  rw [if_neg (by omega), mone_num, numI_nat]
  simp only [List.cons_append, List.nil_append]
theorem e_long (z : Int) : m__law_long K cs [.int z] = .ok (.bl true) := by
  unfold m__law_long argN b__law_long
  have h0 := Int.fmod_nonneg_of_pos z (show (0 : Int) < 1000000007 by decide)
  have h1 := Int.fmod_lt_of_pos z (show (0 : Int) < 1000000007 by decide)
  have hz : (1000000007 : Int) ≠ 0 := by decide
  obtain ⟨r, hr⟩ := Int.eq_ofNat_of_zero_le h0
  have q60 : powB 10 60 = true := by decide
  have t60 : Int.toNat 60 = 60 := rfl
  have w60 : (10 : Int) ^ 60 = (W60 : Int) := by rw [W60_val]; decide
  have rW : r < W60 := by
    rw [W60_val]
    have : (1000000007 : Nat) < 10 ^ 60 := by decide
    omega
  have rW2 : r < 10 ^ 60 := by rw [W60_val] at rW; exact rW
  have wb : W60 < 2 ^ 210 := by rw [W60_val]; decide
  have e1 : (W60 : Int) + (r : Int) = ((W60 + r : Nat) : Int) := by omega
  have e2 : ((W60 + r : Nat) : Int) * (W60 : Int) + (r : Int) = (((W60 + r) * W60 + r : Nat) : Int) := by rw [Int.natCast_add ((W60 + r) * W60) r, Int.natCast_mul]
  have g1 := g_str (i := ((W60 + r : Nat) : Int)) (show Bd 220 _ by unfold Bd; rw [Int.natAbs_natCast]; omega |>.mono (by decide))
  have g2 := g_str (i := (r : Int)) (bd60 rW2)
  rw [numI_nat] at g1 g2
  have ll := numL_len (k := 60) (by decide) rW2
  have lW := numL_len (n := W60 + r) (k := 70) (by decide) (by
    have h : (2 : Nat) * 10 ^ 60 ≤ 10 ^ 70 := by decide
    have h' : W60 + r < 2 * 10 ^ 60 := by rw [W60_val] at rW ⊢; omega
    exact Nat.lt_of_lt_of_le h' h)
  have ln : gLen [.str (S (numL r))] = some (.int ((numL r).length : Int)) := len_S (by omega)
  have mr := mul_rep 48 (k := 60 - ((numL r).length : Int)) (by omega) (by omega)
  have tn : (60 - ((numL r).length : Int)).toNat = 60 - (numL r).length := by omega
  rw [tn] at mr
  have c1 := g_cat (a := numL (W60 + r)) (b := List.replicate (60 - (numL r).length) 48) (by simp; omega)
  have c2 := g_cat (a := numL (W60 + r) ++ List.replicate (60 - (numL r).length) 48) (b := numL r) (by simp; omega)
  have key : numL (W60 + r) ++ List.replicate (60 - (numL r).length) 48 ++ numL r = numL ((W60 + r) * W60 + r) := by
    rw [num_padW (by have := W60_pos; omega) rW, pad_num 60 r (by decide) rW2, List.append_assoc]
  rw [key] at c2
  have mm : mulB ((W60 + r : Nat) : Int) (W60 : Int) = true := mulB_of (m := 220) (n := 220) (by unfold Bd; rw [Int.natAbs_natCast]; omega) (by unfold Bd; rw [Int.natAbs_natCast]; omega) (by decide)
  have pb : (W60 + r) * W60 + r < W60 ^ 10 := by
    have wp := W60_pos
    have a1 : (W60 + r) * W60 ≤ (2 * W60) * W60 := Nat.mul_le_mul_right _ (by omega)
    have a6 : 2 * W60 * W60 = W60 * W60 * 2 := by rw [Nat.mul_assoc, Nat.mul_comm]
    have a7 : W60 ≤ W60 * W60 := Nat.le_mul_of_pos_left _ wp
    have n1 : (W60 + r) * W60 + r < W60 * W60 * 10 := by omega
    have a2 : 10 ≤ W60 := by rw [W60_val]; decide
    have a4 : 10 ≤ W60 ^ 8 := Nat.le_trans a2 (by have h := Nat.pow_le_pow_right wp (show 1 ≤ 8 by decide); rw [Nat.pow_one] at h; exact h)
    have a5 : W60 * W60 * 10 ≤ W60 * W60 * W60 ^ 8 := Nat.mul_le_mul_left _ a4
    have a3 : W60 * W60 * W60 ^ 8 = W60 ^ 10 := by rw [← Nat.pow_two, ← Nat.pow_add]
    rw [a3] at a5
    exact Nat.lt_of_lt_of_le n1 a5
  have p1 : (1 : Int).natAbs < W60 ^ 10 := by
    have wp : 1 < W60 := by rw [W60_val]; decide
    exact Nat.lt_of_lt_of_le wp (by have := Nat.pow_le_pow_right W60_pos (show 1 ≤ 10 by decide); rw [Nat.pow_one] at this; exact this)
  have x1 := e_exact_text (K := K) (cs := cs) (n := (((W60 + r) * W60 + r : Nat) : Int)) (d := 1) (by rw [Int.natAbs_natCast]; exact pb) p1
  have x2 := e_exact_text (K := K) (cs := cs) (n := 0 - (((W60 + r) * W60 + r : Nat) : Int)) (d := 1) (by rw [Int.zero_sub, Int.natAbs_neg, Int.natAbs_natCast]; exact pb) p1
  have x3 := e_exact_text (K := K) (cs := cs) (n := 1) (d := (((W60 + r) * W60 + r : Nat) : Int)) p1 (by rw [Int.natAbs_natCast]; exact pb)
  have x4 := e_exact_text (K := K) (cs := cs) (n := 0 - 1) (d := (((W60 + r) * W60 + r : Nat) : Int)) p1 (by rw [Int.natAbs_natCast]; exact pb)
  have big : 1 < (W60 + r) * W60 + r := by
    have wp : 1 < W60 := by rw [W60_val]; decide
    have h9 : 1 * W60 ≤ (W60 + r) * W60 := Nat.mul_le_mul_right _ (by omega)
    clear pb x1 x2 x3 x4 p1
    omega
  have lN' := W_600 pb
  clear pb p1
  generalize (W60 + r) * W60 + r = N at *
  have y1 : textL (N : Int) 1 = numL N := by unfold textL; rw [if_pos rfl, numI_nat]
  have y2 : textL (0 - (N : Int)) 1 = 45 :: numL N := by unfold textL; rw [if_pos rfl, Int.zero_sub, numI_neg (by omega)]
  have y3 := text_1 (N := N) (by omega)
  have y4 := text_m1 (N := N) (by omega)
  rw [y1] at x1
  rw [y2] at x2
  rw [y3] at x3
  rw [y4] at x4
  have lN : (numL N).length ≤ 600 := lN'
  have s1 : (Str.ofString "1/") = S [49, 47] := by decide
  have s2 : (Str.ofString "-1/") = S [45, 49, 47] := by decide
  have d1 := g_cat (a := [45]) (b := numL N) (by simp; omega)
  have d2 := g_cat (a := [49, 47]) (b := numL N) (by simp; omega)
  have d3 := g_cat (a := [45, 49, 47]) (b := numL N) (by simp; omega)
  have z2 : (2 : Nat) ≤ 16777216 := by decide
  have nd : ∀ a b : Str, neD (.str a) (.str b) = some (!(a == b)) := fun _ _ => rfl
  have cc : ([45] : List Nat) ++ numL N = 45 :: numL N := rfl
  rw [cc] at d1
  simp -implicitDefEqProofs only [FD.sSeq_ap, FD.sNext_ap, FD.sBrk_ap, FD.sCont_ap, FD.sIf_ap, FD.sSet_ap, FD.sSetL_ap, FD.sDrop_ap, FD.sRet_ap, FD.sRetN_ap, FD.sFor_ap, FD.sAsg_ap, FD.sRaise_ap, FD.sAppend_ap, FD.sSetIx_ap, FD.eC_ap, FD.eVar_0, FD.eVar_s, FD.e1_ap, FD.e2_ap, FD.t1_ap, FD.t2_ap, FD.eT_ap, FD.tAnd_ap, FD.tOr_ap, FD.tNot_ap, FD.eIf_ap, FD.aNil_ap, FD.aCons_ap, FD.eTup_ap, FD.lLst_ap, FD.eL_ap, FD.eB_ap, FD.eCallR_ap, FD.eAnd_ap, FD.eOr_ap, FD.eNot_ap, FD.eChain_ap, FD.oSeq_ap, FD.oRange_ap, FD.oNone_ap, FD.oInt_ap, FD.lCut_ap, FD.gCutL_lst, FD.gCutL_fls, FD.frzD_int, FD.frzD_bl, FD.frzD_str, FD.frzD_non, FD.frzD_nil, FD.frzD_lst, FD.frzD_fls, FD.outS_nx, FD.outS_rt, FD.outS_exc, FD.runD_eq, FD.Out.bind_ok, FD.Out.bind_exc, FD.Out.bind_bad, FD.stE_ok, FD.stE_exc, FD.stE_bad, FD.andThen_nx, FD.andThen_bk, FD.andThen_ct, FD.andThen_rt, FD.andThen_exc, FD.andThen_bad, FD.ofO_some, FD.ofO_none, FD.Lo.d_sh, FD.Lo.d_ol, FD.Lo.d_od, FD.frz_nil, FD.frz_cons, FD.frz1_0, FD.frz1_n, FD.frz1_s, FD.uName_ap, FD.uTup_ap, FD.uCons_ap, FD.uNil_ap, FD.turn_nx, FD.turn_ct, FD.turn_bk, FD.turn_rt, FD.turn_exc, FD.forD_nil, FD.forD_n, FD.atI_0, FD.atI_1, FD.atI_2, FD.atI_3, FD.unset_rt, FD.unset_nx, FD.unset_bk, FD.unset_ct, Option.bind_some, Option.map_some, FD.gI_int, FD.gI0_int, FD.cI_int, FD.gAdd_int, FD.gNeg_int, FD.eqD_int, FD.eqD_str, FD.eqD_bl, FD.eqD_non, FD.neg2_eq, FD.blD_bl, FD.truD_non, FD.truD_bl, FD.truD_int, FD.truD_tup, FD.truD_lst, FD.truD_fls, FD.truD_dic, FD.Dt.seq_tup, FD.Dt.seq_lst, FD.Dt.seq_fls, FD.gLen_tup, FD.gLen_lst, FD.gLen_fls, FD.gInt_int, FD.gInt_bl, FD.gAbs_int, FD.gGcd_int, FD.gIntA_int, FD.gIntA_bl, FD.gIx_tup, FD.gIx_lst, FD.gIx_fls, FD.isi_int_int, FD.isi_int_bool, FD.isi_bool_int, FD.isi_bool_bool, FD.isi_tup, FD.isi_lst, List.map_cons, List.map_nil, List.length_cons, List.length_nil, List.cons_append, List.nil_append, List.set_cons_zero, List.set_cons_succ, List.getElem?_cons_zero, List.getElem?_cons_succ, Nat.reduceAdd, Nat.reduceSub, Nat.zero_add, Nat.sub_self, List.replicate_zero, List.replicate_succ, Nat.reduceLeDiff, if_true, if_false, Bool.false_eq_true, Bool.not_true, Bool.not_false, decide_eq_true_eq, hr, nzB_of hz, q60, t60, w60, e1, e2, g1, g2, str_0, ln, mr, c1, c2, mm, x1, x2, x3, x4, str_dash, s1, s2, d1, d2, d3, z2, nd, beq_self_eq_true]
end Lk01

set_option exponentiation.threshold 4000
namespace Lk01
open PySem L2 FD SX TL
variable {K : PySem.W.Frag} {cs : Cs}
/-- short and plain -/
def Pl (n : Nat) (t : List Nat) : Prop := t.length ≤ n ∧ ∀ c ∈ t, c < 128
theorem Pl.app {a b : List Nat} {m n : Nat} (h : Pl m a) (k : Pl n b) : Pl (m + n) (a ++ b) := ⟨by rw [List.length_append]; have := h.1; have := k.1; omega, fun c hc => (List.mem_append.mp hc).elim (h.2 c) (k.2 c)⟩
theorem Pl.take {a : List Nat} {m : Nat} (h : Pl m a) (k : Nat) : Pl m (a.take k) := ⟨by rw [List.length_take]; have := h.1; omega, fun c hc => h.2 c (List.mem_of_mem_take hc)⟩
theorem Pl.drop {a : List Nat} {m : Nat} (h : Pl m a) (k : Nat) : Pl m (a.drop k) := ⟨by rw [List.length_drop]; have := h.1; omega, fun c hc => h.2 c (List.mem_of_mem_drop hc)⟩
theorem Pl.mono {a : List Nat} {m n : Nat} (h : Pl m a) (k : m ≤ n) : Pl n a := ⟨Nat.le_trans h.1 k, h.2⟩
theorem Pl.rep {c k : Nat} (h : c < 128) : Pl k (List.replicate k c) := ⟨by simp, fun d hd => by rw [(List.mem_replicate.mp hd).2]; exact h⟩
theorem pl_num {i : Int} (h : i.natAbs < W60 ^ 10) : Pl 601 (numI i) := ⟨numI_len h, fun c hc => by
  unfold numI at hc
  split at hc
  · rcases List.mem_cons.mp hc with z | z
    · omega
    · have := numL_digits _ c z
      omega
  · have := numL_digits _ c hc
    omega⟩
theorem pl_text {n d : Int} (h : n.natAbs < W60 ^ 10) (k : d.natAbs < W60 ^ 10) : Pl 1203 (textL n d) := by
  unfold textL
  split
  · exact (pl_num h).mono (by decide)
  · exact (pl_num h).app (Pl.app (m := 1) (n := 601) (a := [47]) ⟨by simp, by simp⟩ (pl_num k))
theorem cat_pl {a b : List Nat} {m n : Nat} (h : Pl m a) (k : Pl n b) (hm : m + n ≤ 16777216) : gAdd (.str (S a)) (.str (S b)) = some (.str (S (a ++ b))) := g_cat (by have := h.1; have := k.1; omega)
theorem cut_to {t : List Nat} {m : Nat} (h : Pl m t) (hm : m ≤ 16777216) {i : Int} (hi : 0 ≤ i) : gCutA (.str (S t)) none (some i) = some (.str (S (t.take i.toNat))) := by
  show (if (S t).length ≤ 16777216 then some (Dt.str (Txt.slice (S t) none (some i))) else none) = _
  rw [if_pos (by rw [S_len]; have := h.1; omega), slice_to hi]
theorem cut_from {t : List Nat} {m : Nat} (h : Pl m t) (hm : m ≤ 16777216) {i : Int} (hi : 0 ≤ i) : gCutA (.str (S t)) (some i) none = some (.str (S (t.drop i.toNat))) := by
  show (if (S t).length ≤ 16777216 then some (Dt.str (Txt.slice (S t) (some i) none)) else none) = _
  rw [if_pos (by rw [S_len]; have := h.1; omega), slice_from hi]
/-! the fixed texts -/
theorem signs_eq : (Str.ofString "0123456789/-+._ab \n") = S [48, 49, 50, 51, 52, 53, 54, 55, 56, 57, 47, 45, 43, 46, 95, 97, 98, 32, 10] := by decide
theorem sign_at {k : Int} (h0 : 0 ≤ k) (h1 : k < 19) : ∃ c, c < 128 ∧ gIx (.str (Str.ofString "0123456789/-+._ab \n")) (.int k) = some (.str (S [c])) := by
  rw [signs_eq, gIx_str, S_len, if_pos (by decide)]
  obtain ⟨c, e, e2⟩ := atI_in (xs := [48, 49, 50, 51, 52, 53, 54, 55, 56, 57, 47, 45, 43, 46, 95, 97, 98, 32, 10]) h0 (by simpa using h1)
  refine ⟨c, ?_, ?_⟩
  · have := List.mem_of_getElem? e2
    simp only [List.mem_cons, List.not_mem_nil, or_false] at this
    omega
  · show Option.map _ (atI [48, 49, 50, 51, 52, 53, 54, 55, 56, 57, 47, 45, 43, 46, 95, 97, 98, 32, 10] k) = _
    rw [e]
    rfl
theorem pick8 {a b c d e f g h : String} (ha : Pl 3 (Str.ofString a).cps.toList) (hb : Pl 3 (Str.ofString b).cps.toList) (hc : Pl 3 (Str.ofString c).cps.toList) (hd : Pl 3 (Str.ofString d).cps.toList) (he : Pl 3 (Str.ofString e).cps.toList) (hf : Pl 3 (Str.ofString f).cps.toList) (hg : Pl 3 (Str.ofString g).cps.toList) (hh : Pl 3 (Str.ofString h).cps.toList) {k : Int} (h0 : 0 ≤ k) (h1 : k < 8) :
    ∃ w, Pl 3 w ∧ atI [Dt.str (Str.ofString a), .str (Str.ofString b), .str (Str.ofString c), .str (Str.ofString d), .str (Str.ofString e), .str (Str.ofString f), .str (Str.ofString g), .str (Str.ofString h)] k = some (.str (S w)) := by
  have hk : k = 0 ∨ k = 1 ∨ k = 2 ∨ k = 3 ∨ k = 4 ∨ k = 5 ∨ k = 6 ∨ k = 7 := by omega
  have st : ∀ s : Str, Dt.str s = .str (S s.cps.toList) := fun s => by rw [S_tl]
  rcases hk with z | z | z | z | z | z | z | z <;> subst z
  · exact ⟨_, ha, congrArg some (st _)⟩
  · exact ⟨_, hb, congrArg some (st _)⟩
  · exact ⟨_, hc, congrArg some (st _)⟩
  · exact ⟨_, hd, congrArg some (st _)⟩
  · exact ⟨_, he, congrArg some (st _)⟩
  · exact ⟨_, hf, congrArg some (st _)⟩
  · exact ⟨_, hg, congrArg some (st _)⟩
  · exact ⟨_, hh, congrArg some (st _)⟩
end Lk01

set_option exponentiation.threshold 4000
-- NODS
namespace Lk01
open PySem L2 FD SX TL
variable {K : PySem.W.Frag} {cs : Cs}
theorem str_7 : (Str.ofString "7") = S [55] := by decide
theorem str_m5 : (Str.ofString "-5/") = S [45, 53, 47] := by decide
theorem pick4 {k : Int} (h0 : 0 ≤ k) (h1 : k < 4) : ∃ m : Int, 0 ≤ m ∧ m ≤ 5000 ∧ atI [Dt.int 40, .int 41, .int 42, .int 5000] k = some (.int m) := by
  have hk : k = 0 ∨ k = 1 ∨ k = 2 ∨ k = 3 := by omega
  rcases hk with z | z | z | z <;> subst z
  · exact ⟨40, by decide, by decide, rfl⟩
  · exact ⟨41, by decide, by decide, rfl⟩
  · exact ⟨42, by decide, by decide, rfl⟩
  · exact ⟨5000, by decide, by decide, rfl⟩
theorem fac_bd {f : Int} {n : Int} (h : n.natAbs < 10 ^ 61) (h0 : 0 ≤ f) (h1 : f < 8) : (n * (2 + f)).natAbs < 10 ^ 62 := by
  rw [Int.natAbs_mul]
  have : (2 + f).natAbs ≤ 9 := by omega
  calc n.natAbs * (2 + f).natAbs ≤ n.natAbs * 9 := Nat.mul_le_mul_left _ this
    _ < 10 ^ 62 := by omega
theorem bd62 {i : Int} (h : i.natAbs < 10 ^ 62) : Bd 1900 i := Nat.lt_trans h (by decide)
theorem W62 : 10 ^ 62 ≤ W60 ^ 10 := by
  rw [W60_val, ← Nat.pow_mul]
  exact Nat.pow_le_pow_right (by decide) (by decide)
theorem fac_mul {f n : Int} (h : n.natAbs < 10 ^ 61) (h0 : 0 ≤ f) (h1 : f < 8) : mulB n (2 + f) = true :=
  mulB_of (m := 210) (n := 8) (by unfold Bd; exact Nat.lt_trans h (by decide)) (by unfold Bd; have : (2 + f).natAbs ≤ 9 := by omega
                                                                                   exact Nat.lt_of_le_of_lt this (by decide)) (by decide)
theorem str_sl : (Str.ofString "/") = S [47] := by decide
theorem e_changed {t : List Nat} {q : Rat} (ht : Pl 1500 t) (hne : t ≠ []) (h1 : q.num.natAbs < 10 ^ 61) (h2 : q.den < 10 ^ 61) {w p : Int} (hw : 0 ≤ w) (hw2 : w < 11) (hp : 0 ≤ p) :
    ∃ t', Pl 20000 t' ∧ m__law_changed K cs [.str (S t), .int w, .int p, fr q] = .ok (.str (S t')) := by
  have z128 : (128 : Int) ≠ 0 := by decide
  have z19 : (19 : Int) ≠ 0 := by decide
  have z8 : (8 : Int) ≠ 0 := by decide
  have z4 : (4 : Int) ≠ 0 := by decide
  have z3 : (3 : Int) ≠ 0 := by decide
  have zl : ((t.length : Int) + 1) ≠ 0 := by omega
  have dv : ∀ i, divB i 128 = true := fun i => divB_of (m := 8) z128 (by unfold Bd; decide) (by decide)
  have lt := len_S (w := t) (by have := ht.1; omega)
  obtain ⟨c, hc, hs⟩ := sign_at (Int.fmod_nonneg_of_pos (p.fdiv 128) (show (0 : Int) < 19 by decide)) (Int.fmod_lt_of_pos (p.fdiv 128) (show (0 : Int) < 19 by decide))
  have a0 := Int.fmod_nonneg_of_pos (p.fmod 128) (show (0 : Int) < (t.length : Int) + 1 by omega)
  have e0 := Int.fmod_nonneg_of_pos (p.fdiv 128) (show (0 : Int) < 8 by decide)
  have e1 := Int.fmod_lt_of_pos (p.fdiv 128) (show (0 : Int) < 8 by decide)
  have f0 := Int.fmod_nonneg_of_pos (p.fdiv 128) (show (0 : Int) < 4 by decide)
  have f1 := Int.fmod_lt_of_pos (p.fdiv 128) (show (0 : Int) < 4 by decide)
  have g0 := Int.fmod_nonneg_of_pos (p.fdiv 128) (show (0 : Int) < 3 by decide)
  have g1 := Int.fmod_lt_of_pos (p.fdiv 128) (show (0 : Int) < 3 by decide)
  generalize hat : (p.fmod 128).fmod ((t.length : Int) + 1) = at_ at *
  have at1 : 0 ≤ at_ + 1 := by omega
  have ps : Pl 1 [c] := ⟨by simp, by simpa using hc⟩
  have ct := cut_to ht (by decide) a0
  have cf := cut_from ht (by decide) a0
  have ct1 := cut_to ht (by decide) at1
  have cf1 := cut_from ht (by decide) at1
  have pt := ht.take at_.toNat
  have pd := ht.drop at_.toNat
  have pt1 := ht.take (at_ + 1).toNat
  have pd1 := ht.drop (at_ + 1).toNat
  have c1 := cat_pl pt ps (by decide)
  have c2 := cat_pl (pt.app ps) pd (by decide)
  have c3 := cat_pl pt pd1 (by decide)
  have c4 := cat_pl (pt.app ps) pd1 (by decide)
  have c5 := cat_pl pt1 pd (by decide)
  have hwc : w = 0 ∨ w = 1 ∨ w = 2 ∨ w = 3 ∨ w = 4 ∨ w = 5 ∨ w = 6 ∨ w = 7 ∨ w = 8 ∨ w = 9 ∨ w = 10 := by omega
  have z0 : (8 : Nat) ≤ 16777216 := by decide
  have z00 : (4 : Nat) ≤ 16777216 := by decide
  unfold m__law_changed argN b__law_changed
  rcases hwc with h | h | h | h | h | h | h | h | h | h | h <;> subst h
  · refine ⟨_, ((pt.app ps).app pd).mono (by decide), ?_⟩
    simp -implicitDefEqProofs only [FD.sSeq_ap, FD.sNext_ap, FD.sBrk_ap, FD.sCont_ap, FD.sIf_ap, FD.sSet_ap, FD.sSetL_ap, FD.sDrop_ap, FD.sRet_ap, FD.sRetN_ap, FD.sFor_ap, FD.sAsg_ap, FD.sRaise_ap, FD.sAppend_ap, FD.sSetIx_ap, FD.eC_ap, FD.eVar_0, FD.eVar_s, FD.e1_ap, FD.e2_ap, FD.t1_ap, FD.t2_ap, FD.eT_ap, FD.tAnd_ap, FD.tOr_ap, FD.tNot_ap, FD.eIf_ap, FD.aNil_ap, FD.aCons_ap, FD.eTup_ap, FD.lLst_ap, FD.eL_ap, FD.eB_ap, FD.eCallR_ap, FD.eAnd_ap, FD.eOr_ap, FD.eNot_ap, FD.eChain_ap, FD.oSeq_ap, FD.oRange_ap, FD.oNone_ap, FD.oInt_ap, FD.lCut_ap, FD.gCutL_lst, FD.gCutL_fls, FD.frzD_int, FD.frzD_bl, FD.frzD_str, FD.frzD_non, FD.frzD_nil, FD.frzD_lst, FD.frzD_fls, FD.outS_nx, FD.outS_rt, FD.outS_exc, FD.runD_eq, FD.Out.bind_ok, FD.Out.bind_exc, FD.Out.bind_bad, FD.stE_ok, FD.stE_exc, FD.stE_bad, FD.andThen_nx, FD.andThen_bk, FD.andThen_ct, FD.andThen_rt, FD.andThen_exc, FD.andThen_bad, FD.ofO_some, FD.ofO_none, FD.Lo.d_sh, FD.Lo.d_ol, FD.Lo.d_od, FD.frz_nil, FD.frz_cons, FD.frz1_0, FD.frz1_n, FD.frz1_s, FD.uName_ap, FD.uTup_ap, FD.uCons_ap, FD.uNil_ap, FD.turn_nx, FD.turn_ct, FD.turn_bk, FD.turn_rt, FD.turn_exc, FD.forD_nil, FD.forD_n, FD.atI_0, FD.atI_1, FD.atI_2, FD.atI_3, FD.unset_rt, FD.unset_nx, FD.unset_bk, FD.unset_ct, Option.bind_some, Option.map_some, FD.gI_int, FD.gI0_int, FD.cI_int, FD.gAdd_int, FD.gNeg_int, FD.eqD_int, FD.eqD_str, FD.eqD_bl, FD.eqD_non, FD.neg2_eq, FD.blD_bl, FD.truD_non, FD.truD_bl, FD.truD_int, FD.truD_tup, FD.truD_lst, FD.truD_fls, FD.truD_dic, FD.Dt.seq_tup, FD.Dt.seq_lst, FD.Dt.seq_fls, FD.gLen_tup, FD.gLen_lst, FD.gLen_fls, FD.gInt_int, FD.gInt_bl, FD.gAbs_int, FD.gGcd_int, FD.gIntA_int, FD.gIntA_bl, FD.gIx_tup, FD.gIx_lst, FD.gIx_fls, FD.isi_int_int, FD.isi_int_bool, FD.isi_bool_int, FD.isi_bool_bool, FD.isi_tup, FD.isi_lst, List.map_cons, List.map_nil, List.length_cons, List.length_nil, List.cons_append, List.nil_append, List.set_cons_zero, List.set_cons_succ, List.getElem?_cons_zero, List.getElem?_cons_succ, Nat.reduceAdd, Nat.reduceSub, Nat.zero_add, Nat.sub_self, List.replicate_zero, List.replicate_succ, Nat.reduceLeDiff, if_true, if_false, Bool.false_eq_true, Bool.not_true, Bool.not_false, decide_eq_true_eq, dv, nzB_of z19, hs, lt, nzB_of z128, nzB_of zl, hat, Int.reduceBEq, eCut_ap, ct, cf, c1, c2]
  · refine ⟨_, (pt.app pd1).mono (by decide), ?_⟩
    simp -implicitDefEqProofs only [FD.sSeq_ap, FD.sNext_ap, FD.sBrk_ap, FD.sCont_ap, FD.sIf_ap, FD.sSet_ap, FD.sSetL_ap, FD.sDrop_ap, FD.sRet_ap, FD.sRetN_ap, FD.sFor_ap, FD.sAsg_ap, FD.sRaise_ap, FD.sAppend_ap, FD.sSetIx_ap, FD.eC_ap, FD.eVar_0, FD.eVar_s, FD.e1_ap, FD.e2_ap, FD.t1_ap, FD.t2_ap, FD.eT_ap, FD.tAnd_ap, FD.tOr_ap, FD.tNot_ap, FD.eIf_ap, FD.aNil_ap, FD.aCons_ap, FD.eTup_ap, FD.lLst_ap, FD.eL_ap, FD.eB_ap, FD.eCallR_ap, FD.eAnd_ap, FD.eOr_ap, FD.eNot_ap, FD.eChain_ap, FD.oSeq_ap, FD.oRange_ap, FD.oNone_ap, FD.oInt_ap, FD.lCut_ap, FD.gCutL_lst, FD.gCutL_fls, FD.frzD_int, FD.frzD_bl, FD.frzD_str, FD.frzD_non, FD.frzD_nil, FD.frzD_lst, FD.frzD_fls, FD.outS_nx, FD.outS_rt, FD.outS_exc, FD.runD_eq, FD.Out.bind_ok, FD.Out.bind_exc, FD.Out.bind_bad, FD.stE_ok, FD.stE_exc, FD.stE_bad, FD.andThen_nx, FD.andThen_bk, FD.andThen_ct, FD.andThen_rt, FD.andThen_exc, FD.andThen_bad, FD.ofO_some, FD.ofO_none, FD.Lo.d_sh, FD.Lo.d_ol, FD.Lo.d_od, FD.frz_nil, FD.frz_cons, FD.frz1_0, FD.frz1_n, FD.frz1_s, FD.uName_ap, FD.uTup_ap, FD.uCons_ap, FD.uNil_ap, FD.turn_nx, FD.turn_ct, FD.turn_bk, FD.turn_rt, FD.turn_exc, FD.forD_nil, FD.forD_n, FD.atI_0, FD.atI_1, FD.atI_2, FD.atI_3, FD.unset_rt, FD.unset_nx, FD.unset_bk, FD.unset_ct, Option.bind_some, Option.map_some, FD.gI_int, FD.gI0_int, FD.cI_int, FD.gAdd_int, FD.gNeg_int, FD.eqD_int, FD.eqD_str, FD.eqD_bl, FD.eqD_non, FD.neg2_eq, FD.blD_bl, FD.truD_non, FD.truD_bl, FD.truD_int, FD.truD_tup, FD.truD_lst, FD.truD_fls, FD.truD_dic, FD.Dt.seq_tup, FD.Dt.seq_lst, FD.Dt.seq_fls, FD.gLen_tup, FD.gLen_lst, FD.gLen_fls, FD.gInt_int, FD.gInt_bl, FD.gAbs_int, FD.gGcd_int, FD.gIntA_int, FD.gIntA_bl, FD.gIx_tup, FD.gIx_lst, FD.gIx_fls, FD.isi_int_int, FD.isi_int_bool, FD.isi_bool_int, FD.isi_bool_bool, FD.isi_tup, FD.isi_lst, List.map_cons, List.map_nil, List.length_cons, List.length_nil, List.cons_append, List.nil_append, List.set_cons_zero, List.set_cons_succ, List.getElem?_cons_zero, List.getElem?_cons_succ, Nat.reduceAdd, Nat.reduceSub, Nat.zero_add, Nat.sub_self, List.replicate_zero, List.replicate_succ, Nat.reduceLeDiff, if_true, if_false, Bool.false_eq_true, Bool.not_true, Bool.not_false, decide_eq_true_eq, dv, nzB_of z19, hs, lt, nzB_of z128, nzB_of zl, hat, Int.reduceBEq, eCut_ap, ct, cf1, c3]
  · refine ⟨_, ((pt.app ps).app pd1).mono (by decide), ?_⟩
    simp -implicitDefEqProofs only [FD.sSeq_ap, FD.sNext_ap, FD.sBrk_ap, FD.sCont_ap, FD.sIf_ap, FD.sSet_ap, FD.sSetL_ap, FD.sDrop_ap, FD.sRet_ap, FD.sRetN_ap, FD.sFor_ap, FD.sAsg_ap, FD.sRaise_ap, FD.sAppend_ap, FD.sSetIx_ap, FD.eC_ap, FD.eVar_0, FD.eVar_s, FD.e1_ap, FD.e2_ap, FD.t1_ap, FD.t2_ap, FD.eT_ap, FD.tAnd_ap, FD.tOr_ap, FD.tNot_ap, FD.eIf_ap, FD.aNil_ap, FD.aCons_ap, FD.eTup_ap, FD.lLst_ap, FD.eL_ap, FD.eB_ap, FD.eCallR_ap, FD.eAnd_ap, FD.eOr_ap, FD.eNot_ap, FD.eChain_ap, FD.oSeq_ap, FD.oRange_ap, FD.oNone_ap, FD.oInt_ap, FD.lCut_ap, FD.gCutL_lst, FD.gCutL_fls, FD.frzD_int, FD.frzD_bl, FD.frzD_str, FD.frzD_non, FD.frzD_nil, FD.frzD_lst, FD.frzD_fls, FD.outS_nx, FD.outS_rt, FD.outS_exc, FD.runD_eq, FD.Out.bind_ok, FD.Out.bind_exc, FD.Out.bind_bad, FD.stE_ok, FD.stE_exc, FD.stE_bad, FD.andThen_nx, FD.andThen_bk, FD.andThen_ct, FD.andThen_rt, FD.andThen_exc, FD.andThen_bad, FD.ofO_some, FD.ofO_none, FD.Lo.d_sh, FD.Lo.d_ol, FD.Lo.d_od, FD.frz_nil, FD.frz_cons, FD.frz1_0, FD.frz1_n, FD.frz1_s, FD.uName_ap, FD.uTup_ap, FD.uCons_ap, FD.uNil_ap, FD.turn_nx, FD.turn_ct, FD.turn_bk, FD.turn_rt, FD.turn_exc, FD.forD_nil, FD.forD_n, FD.atI_0, FD.atI_1, FD.atI_2, FD.atI_3, FD.unset_rt, FD.unset_nx, FD.unset_bk, FD.unset_ct, Option.bind_some, Option.map_some, FD.gI_int, FD.gI0_int, FD.cI_int, FD.gAdd_int, FD.gNeg_int, FD.eqD_int, FD.eqD_str, FD.eqD_bl, FD.eqD_non, FD.neg2_eq, FD.blD_bl, FD.truD_non, FD.truD_bl, FD.truD_int, FD.truD_tup, FD.truD_lst, FD.truD_fls, FD.truD_dic, FD.Dt.seq_tup, FD.Dt.seq_lst, FD.Dt.seq_fls, FD.gLen_tup, FD.gLen_lst, FD.gLen_fls, FD.gInt_int, FD.gInt_bl, FD.gAbs_int, FD.gGcd_int, FD.gIntA_int, FD.gIntA_bl, FD.gIx_tup, FD.gIx_lst, FD.gIx_fls, FD.isi_int_int, FD.isi_int_bool, FD.isi_bool_int, FD.isi_bool_bool, FD.isi_tup, FD.isi_lst, List.map_cons, List.map_nil, List.length_cons, List.length_nil, List.cons_append, List.nil_append, List.set_cons_zero, List.set_cons_succ, List.getElem?_cons_zero, List.getElem?_cons_succ, Nat.reduceAdd, Nat.reduceSub, Nat.zero_add, Nat.sub_self, List.replicate_zero, List.replicate_succ, Nat.reduceLeDiff, if_true, if_false, Bool.false_eq_true, Bool.not_true, Bool.not_false, decide_eq_true_eq, dv, nzB_of z19, hs, lt, nzB_of z128, nzB_of zl, hat, Int.reduceBEq, eCut_ap, ct, cf1, c1, c4]
  · refine ⟨_, (pt1.app pd).mono (by decide), ?_⟩
    simp -implicitDefEqProofs only [FD.sSeq_ap, FD.sNext_ap, FD.sBrk_ap, FD.sCont_ap, FD.sIf_ap, FD.sSet_ap, FD.sSetL_ap, FD.sDrop_ap, FD.sRet_ap, FD.sRetN_ap, FD.sFor_ap, FD.sAsg_ap, FD.sRaise_ap, FD.sAppend_ap, FD.sSetIx_ap, FD.eC_ap, FD.eVar_0, FD.eVar_s, FD.e1_ap, FD.e2_ap, FD.t1_ap, FD.t2_ap, FD.eT_ap, FD.tAnd_ap, FD.tOr_ap, FD.tNot_ap, FD.eIf_ap, FD.aNil_ap, FD.aCons_ap, FD.eTup_ap, FD.lLst_ap, FD.eL_ap, FD.eB_ap, FD.eCallR_ap, FD.eAnd_ap, FD.eOr_ap, FD.eNot_ap, FD.eChain_ap, FD.oSeq_ap, FD.oRange_ap, FD.oNone_ap, FD.oInt_ap, FD.lCut_ap, FD.gCutL_lst, FD.gCutL_fls, FD.frzD_int, FD.frzD_bl, FD.frzD_str, FD.frzD_non, FD.frzD_nil, FD.frzD_lst, FD.frzD_fls, FD.outS_nx, FD.outS_rt, FD.outS_exc, FD.runD_eq, FD.Out.bind_ok, FD.Out.bind_exc, FD.Out.bind_bad, FD.stE_ok, FD.stE_exc, FD.stE_bad, FD.andThen_nx, FD.andThen_bk, FD.andThen_ct, FD.andThen_rt, FD.andThen_exc, FD.andThen_bad, FD.ofO_some, FD.ofO_none, FD.Lo.d_sh, FD.Lo.d_ol, FD.Lo.d_od, FD.frz_nil, FD.frz_cons, FD.frz1_0, FD.frz1_n, FD.frz1_s, FD.uName_ap, FD.uTup_ap, FD.uCons_ap, FD.uNil_ap, FD.turn_nx, FD.turn_ct, FD.turn_bk, FD.turn_rt, FD.turn_exc, FD.forD_nil, FD.forD_n, FD.atI_0, FD.atI_1, FD.atI_2, FD.atI_3, FD.unset_rt, FD.unset_nx, FD.unset_bk, FD.unset_ct, Option.bind_some, Option.map_some, FD.gI_int, FD.gI0_int, FD.cI_int, FD.gAdd_int, FD.gNeg_int, FD.eqD_int, FD.eqD_str, FD.eqD_bl, FD.eqD_non, FD.neg2_eq, FD.blD_bl, FD.truD_non, FD.truD_bl, FD.truD_int, FD.truD_tup, FD.truD_lst, FD.truD_fls, FD.truD_dic, FD.Dt.seq_tup, FD.Dt.seq_lst, FD.Dt.seq_fls, FD.gLen_tup, FD.gLen_lst, FD.gLen_fls, FD.gInt_int, FD.gInt_bl, FD.gAbs_int, FD.gGcd_int, FD.gIntA_int, FD.gIntA_bl, FD.gIx_tup, FD.gIx_lst, FD.gIx_fls, FD.isi_int_int, FD.isi_int_bool, FD.isi_bool_int, FD.isi_bool_bool, FD.isi_tup, FD.isi_lst, List.map_cons, List.map_nil, List.length_cons, List.length_nil, List.cons_append, List.nil_append, List.set_cons_zero, List.set_cons_succ, List.getElem?_cons_zero, List.getElem?_cons_succ, Nat.reduceAdd, Nat.reduceSub, Nat.zero_add, Nat.sub_self, List.replicate_zero, List.replicate_succ, Nat.reduceLeDiff, if_true, if_false, Bool.false_eq_true, Bool.not_true, Bool.not_false, decide_eq_true_eq, dv, nzB_of z19, hs, lt, nzB_of z128, nzB_of zl, hat, Int.reduceBEq, eCut_ap, ct1, cf, c5]
  · generalize hf : (p.fdiv 128).fmod 8 = f at *
    have b1 := fac_bd h1 e0 e1
    have b2 := fac_bd (n := (q.den : Int)) (by rw [Int.natAbs_natCast]; exact h2) e0 e1
    have q1 := g_str (bd62 b1)
    have q2 := g_str (bd62 b2)
    have m1 := fac_mul h1 e0 e1
    have m2 := fac_mul (n := (q.den : Int)) (by rw [Int.natAbs_natCast]; exact h2) e0 e1
    have p1 := pl_num (Nat.lt_of_lt_of_le b1 W62)
    have p2 := pl_num (Nat.lt_of_lt_of_le b2 W62)
    have p3 : Pl 1 [47] := ⟨by simp, by simp⟩
    have k1 := cat_pl p1 p3 (by decide)
    have k2 := cat_pl (p1.app p3) p2 (by decide)
    refine ⟨_, ((p1.app p3).app p2).mono (by decide), ?_⟩
    simp -implicitDefEqProofs only [FD.sSeq_ap, FD.sNext_ap, FD.sBrk_ap, FD.sCont_ap, FD.sIf_ap, FD.sSet_ap, FD.sSetL_ap, FD.sDrop_ap, FD.sRet_ap, FD.sRetN_ap, FD.sFor_ap, FD.sAsg_ap, FD.sRaise_ap, FD.sAppend_ap, FD.sSetIx_ap, FD.eC_ap, FD.eVar_0, FD.eVar_s, FD.e1_ap, FD.e2_ap, FD.t1_ap, FD.t2_ap, FD.eT_ap, FD.tAnd_ap, FD.tOr_ap, FD.tNot_ap, FD.eIf_ap, FD.aNil_ap, FD.aCons_ap, FD.eTup_ap, FD.lLst_ap, FD.eL_ap, FD.eB_ap, FD.eCallR_ap, FD.eAnd_ap, FD.eOr_ap, FD.eNot_ap, FD.eChain_ap, FD.oSeq_ap, FD.oRange_ap, FD.oNone_ap, FD.oInt_ap, FD.lCut_ap, FD.gCutL_lst, FD.gCutL_fls, FD.frzD_int, FD.frzD_bl, FD.frzD_str, FD.frzD_non, FD.frzD_nil, FD.frzD_lst, FD.frzD_fls, FD.outS_nx, FD.outS_rt, FD.outS_exc, FD.runD_eq, FD.Out.bind_ok, FD.Out.bind_exc, FD.Out.bind_bad, FD.stE_ok, FD.stE_exc, FD.stE_bad, FD.andThen_nx, FD.andThen_bk, FD.andThen_ct, FD.andThen_rt, FD.andThen_exc, FD.andThen_bad, FD.ofO_some, FD.ofO_none, FD.Lo.d_sh, FD.Lo.d_ol, FD.Lo.d_od, FD.frz_nil, FD.frz_cons, FD.frz1_0, FD.frz1_n, FD.frz1_s, FD.uName_ap, FD.uTup_ap, FD.uCons_ap, FD.uNil_ap, FD.turn_nx, FD.turn_ct, FD.turn_bk, FD.turn_rt, FD.turn_exc, FD.forD_nil, FD.forD_n, FD.atI_0, FD.atI_1, FD.atI_2, FD.atI_3, FD.unset_rt, FD.unset_nx, FD.unset_bk, FD.unset_ct, Option.bind_some, Option.map_some, FD.gI_int, FD.gI0_int, FD.cI_int, FD.gAdd_int, FD.gNeg_int, FD.eqD_int, FD.eqD_str, FD.eqD_bl, FD.eqD_non, FD.neg2_eq, FD.blD_bl, FD.truD_non, FD.truD_bl, FD.truD_int, FD.truD_tup, FD.truD_lst, FD.truD_fls, FD.truD_dic, FD.Dt.seq_tup, FD.Dt.seq_lst, FD.Dt.seq_fls, FD.gLen_tup, FD.gLen_lst, FD.gLen_fls, FD.gInt_int, FD.gInt_bl, FD.gAbs_int, FD.gGcd_int, FD.gIntA_int, FD.gIntA_bl, FD.gIx_tup, FD.gIx_lst, FD.gIx_fls, FD.isi_int_int, FD.isi_int_bool, FD.isi_bool_int, FD.isi_bool_bool, FD.isi_tup, FD.isi_lst, List.map_cons, List.map_nil, List.length_cons, List.length_nil, List.cons_append, List.nil_append, List.set_cons_zero, List.set_cons_succ, List.getElem?_cons_zero, List.getElem?_cons_succ, Nat.reduceAdd, Nat.reduceSub, Nat.zero_add, Nat.sub_self, List.replicate_zero, List.replicate_succ, Nat.reduceLeDiff, if_true, if_false, Bool.false_eq_true, Bool.not_true, Bool.not_false, decide_eq_true_eq, dv, nzB_of z19, nzB_of z8, nzB_of z4, nzB_of z3, hs, lt, nzB_of z128, nzB_of zl, hat, Int.reduceBEq, eCut_ap, hf, ix0, ix1, m1, m2, q1, q2, str_sl, k1, k2]
  · obtain ⟨u, hu, e⟩ := pick8 (a := "/1") (b := " ") (c := "\n") (d := "/") (e := "0") (f := "/0") (g := "/2") (h := ".0") ⟨by decide, by decide⟩ ⟨by decide, by decide⟩ ⟨by decide, by decide⟩ ⟨by decide, by decide⟩ ⟨by decide, by decide⟩ ⟨by decide, by decide⟩ ⟨by decide, by decide⟩ ⟨by decide, by decide⟩ e0 e1
    have k1 := cat_pl ht hu (by decide)
    refine ⟨_, (ht.app hu).mono (by decide), ?_⟩
    simp -implicitDefEqProofs only [FD.sSeq_ap, FD.sNext_ap, FD.sBrk_ap, FD.sCont_ap, FD.sIf_ap, FD.sSet_ap, FD.sSetL_ap, FD.sDrop_ap, FD.sRet_ap, FD.sRetN_ap, FD.sFor_ap, FD.sAsg_ap, FD.sRaise_ap, FD.sAppend_ap, FD.sSetIx_ap, FD.eC_ap, FD.eVar_0, FD.eVar_s, FD.e1_ap, FD.e2_ap, FD.t1_ap, FD.t2_ap, FD.eT_ap, FD.tAnd_ap, FD.tOr_ap, FD.tNot_ap, FD.eIf_ap, FD.aNil_ap, FD.aCons_ap, FD.eTup_ap, FD.lLst_ap, FD.eL_ap, FD.eB_ap, FD.eCallR_ap, FD.eAnd_ap, FD.eOr_ap, FD.eNot_ap, FD.eChain_ap, FD.oSeq_ap, FD.oRange_ap, FD.oNone_ap, FD.oInt_ap, FD.lCut_ap, FD.gCutL_lst, FD.gCutL_fls, FD.frzD_int, FD.frzD_bl, FD.frzD_str, FD.frzD_non, FD.frzD_nil, FD.frzD_lst, FD.frzD_fls, FD.outS_nx, FD.outS_rt, FD.outS_exc, FD.runD_eq, FD.Out.bind_ok, FD.Out.bind_exc, FD.Out.bind_bad, FD.stE_ok, FD.stE_exc, FD.stE_bad, FD.andThen_nx, FD.andThen_bk, FD.andThen_ct, FD.andThen_rt, FD.andThen_exc, FD.andThen_bad, FD.ofO_some, FD.ofO_none, FD.Lo.d_sh, FD.Lo.d_ol, FD.Lo.d_od, FD.frz_nil, FD.frz_cons, FD.frz1_0, FD.frz1_n, FD.frz1_s, FD.uName_ap, FD.uTup_ap, FD.uCons_ap, FD.uNil_ap, FD.turn_nx, FD.turn_ct, FD.turn_bk, FD.turn_rt, FD.turn_exc, FD.forD_nil, FD.forD_n, FD.atI_0, FD.atI_1, FD.atI_2, FD.atI_3, FD.unset_rt, FD.unset_nx, FD.unset_bk, FD.unset_ct, Option.bind_some, Option.map_some, FD.gI_int, FD.gI0_int, FD.cI_int, FD.gAdd_int, FD.gNeg_int, FD.eqD_int, FD.eqD_str, FD.eqD_bl, FD.eqD_non, FD.neg2_eq, FD.blD_bl, FD.truD_non, FD.truD_bl, FD.truD_int, FD.truD_tup, FD.truD_lst, FD.truD_fls, FD.truD_dic, FD.Dt.seq_tup, FD.Dt.seq_lst, FD.Dt.seq_fls, FD.gLen_tup, FD.gLen_lst, FD.gLen_fls, FD.gInt_int, FD.gInt_bl, FD.gAbs_int, FD.gGcd_int, FD.gIntA_int, FD.gIntA_bl, FD.gIx_tup, FD.gIx_lst, FD.gIx_fls, FD.isi_int_int, FD.isi_int_bool, FD.isi_bool_int, FD.isi_bool_bool, FD.isi_tup, FD.isi_lst, List.map_cons, List.map_nil, List.length_cons, List.length_nil, List.cons_append, List.nil_append, List.set_cons_zero, List.set_cons_succ, List.getElem?_cons_zero, List.getElem?_cons_succ, Nat.reduceAdd, Nat.reduceSub, Nat.zero_add, Nat.sub_self, List.replicate_zero, List.replicate_succ, Nat.reduceLeDiff, if_true, if_false, Bool.false_eq_true, Bool.not_true, Bool.not_false, decide_eq_true_eq, dv, nzB_of z19, nzB_of z8, nzB_of z4, nzB_of z3, hs, lt, nzB_of z128, nzB_of zl, hat, Int.reduceBEq, eCut_ap, z0, e, k1]
  · obtain ⟨u, hu, e⟩ := pick8 (a := "-") (b := "+") (c := "0") (d := " ") (e := "\n") (f := "--") (g := "/") (h := "00") ⟨by decide, by decide⟩ ⟨by decide, by decide⟩ ⟨by decide, by decide⟩ ⟨by decide, by decide⟩ ⟨by decide, by decide⟩ ⟨by decide, by decide⟩ ⟨by decide, by decide⟩ ⟨by decide, by decide⟩ e0 e1
    have k1 := cat_pl hu ht (by decide)
    refine ⟨_, (hu.app ht).mono (by decide), ?_⟩
    simp -implicitDefEqProofs only [FD.sSeq_ap, FD.sNext_ap, FD.sBrk_ap, FD.sCont_ap, FD.sIf_ap, FD.sSet_ap, FD.sSetL_ap, FD.sDrop_ap, FD.sRet_ap, FD.sRetN_ap, FD.sFor_ap, FD.sAsg_ap, FD.sRaise_ap, FD.sAppend_ap, FD.sSetIx_ap, FD.eC_ap, FD.eVar_0, FD.eVar_s, FD.e1_ap, FD.e2_ap, FD.t1_ap, FD.t2_ap, FD.eT_ap, FD.tAnd_ap, FD.tOr_ap, FD.tNot_ap, FD.eIf_ap, FD.aNil_ap, FD.aCons_ap, FD.eTup_ap, FD.lLst_ap, FD.eL_ap, FD.eB_ap, FD.eCallR_ap, FD.eAnd_ap, FD.eOr_ap, FD.eNot_ap, FD.eChain_ap, FD.oSeq_ap, FD.oRange_ap, FD.oNone_ap, FD.oInt_ap, FD.lCut_ap, FD.gCutL_lst, FD.gCutL_fls, FD.frzD_int, FD.frzD_bl, FD.frzD_str, FD.frzD_non, FD.frzD_nil, FD.frzD_lst, FD.frzD_fls, FD.outS_nx, FD.outS_rt, FD.outS_exc, FD.runD_eq, FD.Out.bind_ok, FD.Out.bind_exc, FD.Out.bind_bad, FD.stE_ok, FD.stE_exc, FD.stE_bad, FD.andThen_nx, FD.andThen_bk, FD.andThen_ct, FD.andThen_rt, FD.andThen_exc, FD.andThen_bad, FD.ofO_some, FD.ofO_none, FD.Lo.d_sh, FD.Lo.d_ol, FD.Lo.d_od, FD.frz_nil, FD.frz_cons, FD.frz1_0, FD.frz1_n, FD.frz1_s, FD.uName_ap, FD.uTup_ap, FD.uCons_ap, FD.uNil_ap, FD.turn_nx, FD.turn_ct, FD.turn_bk, FD.turn_rt, FD.turn_exc, FD.forD_nil, FD.forD_n, FD.atI_0, FD.atI_1, FD.atI_2, FD.atI_3, FD.unset_rt, FD.unset_nx, FD.unset_bk, FD.unset_ct, Option.bind_some, Option.map_some, FD.gI_int, FD.gI0_int, FD.cI_int, FD.gAdd_int, FD.gNeg_int, FD.eqD_int, FD.eqD_str, FD.eqD_bl, FD.eqD_non, FD.neg2_eq, FD.blD_bl, FD.truD_non, FD.truD_bl, FD.truD_int, FD.truD_tup, FD.truD_lst, FD.truD_fls, FD.truD_dic, FD.Dt.seq_tup, FD.Dt.seq_lst, FD.Dt.seq_fls, FD.gLen_tup, FD.gLen_lst, FD.gLen_fls, FD.gInt_int, FD.gInt_bl, FD.gAbs_int, FD.gGcd_int, FD.gIntA_int, FD.gIntA_bl, FD.gIx_tup, FD.gIx_lst, FD.gIx_fls, FD.isi_int_int, FD.isi_int_bool, FD.isi_bool_int, FD.isi_bool_bool, FD.isi_tup, FD.isi_lst, List.map_cons, List.map_nil, List.length_cons, List.length_nil, List.cons_append, List.nil_append, List.set_cons_zero, List.set_cons_succ, List.getElem?_cons_zero, List.getElem?_cons_succ, Nat.reduceAdd, Nat.reduceSub, Nat.zero_add, Nat.sub_self, List.replicate_zero, List.replicate_succ, Nat.reduceLeDiff, if_true, if_false, Bool.false_eq_true, Bool.not_true, Bool.not_false, decide_eq_true_eq, dv, nzB_of z19, nzB_of z8, nzB_of z4, nzB_of z3, hs, lt, nzB_of z128, nzB_of zl, hat, Int.reduceBEq, eCut_ap, z0, e, k1]
  · obtain ⟨m, m0, m1, e⟩ := pick4 f0 f1
    have mr := mul_rep 55 m0 (by omega)
    have pr : Pl 5000 (List.replicate m.toNat 55) := (Pl.rep (by decide)).mono (by omega)
    have k1 := cat_pl pt pr (by decide)
    have k2 := cat_pl (pt.app pr) pd (by decide)
    refine ⟨_, ((pt.app pr).app pd).mono (by decide), ?_⟩
    simp -implicitDefEqProofs only [FD.sSeq_ap, FD.sNext_ap, FD.sBrk_ap, FD.sCont_ap, FD.sIf_ap, FD.sSet_ap, FD.sSetL_ap, FD.sDrop_ap, FD.sRet_ap, FD.sRetN_ap, FD.sFor_ap, FD.sAsg_ap, FD.sRaise_ap, FD.sAppend_ap, FD.sSetIx_ap, FD.eC_ap, FD.eVar_0, FD.eVar_s, FD.e1_ap, FD.e2_ap, FD.t1_ap, FD.t2_ap, FD.eT_ap, FD.tAnd_ap, FD.tOr_ap, FD.tNot_ap, FD.eIf_ap, FD.aNil_ap, FD.aCons_ap, FD.eTup_ap, FD.lLst_ap, FD.eL_ap, FD.eB_ap, FD.eCallR_ap, FD.eAnd_ap, FD.eOr_ap, FD.eNot_ap, FD.eChain_ap, FD.oSeq_ap, FD.oRange_ap, FD.oNone_ap, FD.oInt_ap, FD.lCut_ap, FD.gCutL_lst, FD.gCutL_fls, FD.frzD_int, FD.frzD_bl, FD.frzD_str, FD.frzD_non, FD.frzD_nil, FD.frzD_lst, FD.frzD_fls, FD.outS_nx, FD.outS_rt, FD.outS_exc, FD.runD_eq, FD.Out.bind_ok, FD.Out.bind_exc, FD.Out.bind_bad, FD.stE_ok, FD.stE_exc, FD.stE_bad, FD.andThen_nx, FD.andThen_bk, FD.andThen_ct, FD.andThen_rt, FD.andThen_exc, FD.andThen_bad, FD.ofO_some, FD.ofO_none, FD.Lo.d_sh, FD.Lo.d_ol, FD.Lo.d_od, FD.frz_nil, FD.frz_cons, FD.frz1_0, FD.frz1_n, FD.frz1_s, FD.uName_ap, FD.uTup_ap, FD.uCons_ap, FD.uNil_ap, FD.turn_nx, FD.turn_ct, FD.turn_bk, FD.turn_rt, FD.turn_exc, FD.forD_nil, FD.forD_n, FD.atI_0, FD.atI_1, FD.atI_2, FD.atI_3, FD.unset_rt, FD.unset_nx, FD.unset_bk, FD.unset_ct, Option.bind_some, Option.map_some, FD.gI_int, FD.gI0_int, FD.cI_int, FD.gAdd_int, FD.gNeg_int, FD.eqD_int, FD.eqD_str, FD.eqD_bl, FD.eqD_non, FD.neg2_eq, FD.blD_bl, FD.truD_non, FD.truD_bl, FD.truD_int, FD.truD_tup, FD.truD_lst, FD.truD_fls, FD.truD_dic, FD.Dt.seq_tup, FD.Dt.seq_lst, FD.Dt.seq_fls, FD.gLen_tup, FD.gLen_lst, FD.gLen_fls, FD.gInt_int, FD.gInt_bl, FD.gAbs_int, FD.gGcd_int, FD.gIntA_int, FD.gIntA_bl, FD.gIx_tup, FD.gIx_lst, FD.gIx_fls, FD.isi_int_int, FD.isi_int_bool, FD.isi_bool_int, FD.isi_bool_bool, FD.isi_tup, FD.isi_lst, List.map_cons, List.map_nil, List.length_cons, List.length_nil, List.cons_append, List.nil_append, List.set_cons_zero, List.set_cons_succ, List.getElem?_cons_zero, List.getElem?_cons_succ, Nat.reduceAdd, Nat.reduceSub, Nat.zero_add, Nat.sub_self, List.replicate_zero, List.replicate_succ, Nat.reduceLeDiff, if_true, if_false, Bool.false_eq_true, Bool.not_true, Bool.not_false, decide_eq_true_eq, dv, nzB_of z19, nzB_of z8, nzB_of z4, nzB_of z3, hs, lt, nzB_of z128, nzB_of zl, hat, Int.reduceBEq, eCut_ap, z00, e, str_7, mr, ct, cf, k1, k2]
  · generalize hf : (p.fdiv 128).fmod 3 = f at *
    have mr := mul_rep 55 (k := 39 + f) (by omega) (by omega)
    have pr : Pl 50 (List.replicate (39 + f).toNat 55) := (Pl.rep (by decide)).mono (by omega)
    refine ⟨_, pr.mono (by decide), ?_⟩
    simp -implicitDefEqProofs only [FD.sSeq_ap, FD.sNext_ap, FD.sBrk_ap, FD.sCont_ap, FD.sIf_ap, FD.sSet_ap, FD.sSetL_ap, FD.sDrop_ap, FD.sRet_ap, FD.sRetN_ap, FD.sFor_ap, FD.sAsg_ap, FD.sRaise_ap, FD.sAppend_ap, FD.sSetIx_ap, FD.eC_ap, FD.eVar_0, FD.eVar_s, FD.e1_ap, FD.e2_ap, FD.t1_ap, FD.t2_ap, FD.eT_ap, FD.tAnd_ap, FD.tOr_ap, FD.tNot_ap, FD.eIf_ap, FD.aNil_ap, FD.aCons_ap, FD.eTup_ap, FD.lLst_ap, FD.eL_ap, FD.eB_ap, FD.eCallR_ap, FD.eAnd_ap, FD.eOr_ap, FD.eNot_ap, FD.eChain_ap, FD.oSeq_ap, FD.oRange_ap, FD.oNone_ap, FD.oInt_ap, FD.lCut_ap, FD.gCutL_lst, FD.gCutL_fls, FD.frzD_int, FD.frzD_bl, FD.frzD_str, FD.frzD_non, FD.frzD_nil, FD.frzD_lst, FD.frzD_fls, FD.outS_nx, FD.outS_rt, FD.outS_exc, FD.runD_eq, FD.Out.bind_ok, FD.Out.bind_exc, FD.Out.bind_bad, FD.stE_ok, FD.stE_exc, FD.stE_bad, FD.andThen_nx, FD.andThen_bk, FD.andThen_ct, FD.andThen_rt, FD.andThen_exc, FD.andThen_bad, FD.ofO_some, FD.ofO_none, FD.Lo.d_sh, FD.Lo.d_ol, FD.Lo.d_od, FD.frz_nil, FD.frz_cons, FD.frz1_0, FD.frz1_n, FD.frz1_s, FD.uName_ap, FD.uTup_ap, FD.uCons_ap, FD.uNil_ap, FD.turn_nx, FD.turn_ct, FD.turn_bk, FD.turn_rt, FD.turn_exc, FD.forD_nil, FD.forD_n, FD.atI_0, FD.atI_1, FD.atI_2, FD.atI_3, FD.unset_rt, FD.unset_nx, FD.unset_bk, FD.unset_ct, Option.bind_some, Option.map_some, FD.gI_int, FD.gI0_int, FD.cI_int, FD.gAdd_int, FD.gNeg_int, FD.eqD_int, FD.eqD_str, FD.eqD_bl, FD.eqD_non, FD.neg2_eq, FD.blD_bl, FD.truD_non, FD.truD_bl, FD.truD_int, FD.truD_tup, FD.truD_lst, FD.truD_fls, FD.truD_dic, FD.Dt.seq_tup, FD.Dt.seq_lst, FD.Dt.seq_fls, FD.gLen_tup, FD.gLen_lst, FD.gLen_fls, FD.gInt_int, FD.gInt_bl, FD.gAbs_int, FD.gGcd_int, FD.gIntA_int, FD.gIntA_bl, FD.gIx_tup, FD.gIx_lst, FD.gIx_fls, FD.isi_int_int, FD.isi_int_bool, FD.isi_bool_int, FD.isi_bool_bool, FD.isi_tup, FD.isi_lst, List.map_cons, List.map_nil, List.length_cons, List.length_nil, List.cons_append, List.nil_append, List.set_cons_zero, List.set_cons_succ, List.getElem?_cons_zero, List.getElem?_cons_succ, Nat.reduceAdd, Nat.reduceSub, Nat.zero_add, Nat.sub_self, List.replicate_zero, List.replicate_succ, Nat.reduceLeDiff, if_true, if_false, Bool.false_eq_true, Bool.not_true, Bool.not_false, decide_eq_true_eq, dv, nzB_of z19, nzB_of z8, nzB_of z4, nzB_of z3, hs, lt, nzB_of z128, nzB_of zl, hat, Int.reduceBEq, eCut_ap, hf, str_7, mr]
  · generalize hf : (p.fdiv 128).fmod 3 = f at *
    have mr := mul_rep 55 (k := 39 + f) (by omega) (by omega)
    have pr : Pl 50 (List.replicate (39 + f).toNat 55) := (Pl.rep (by decide)).mono (by omega)
    have p3 : Pl 3 [45, 53, 47] := ⟨by simp, by simp⟩
    have k1 := cat_pl p3 pr (by decide)
    refine ⟨_, (p3.app pr).mono (by decide), ?_⟩
    simp -implicitDefEqProofs only [FD.sSeq_ap, FD.sNext_ap, FD.sBrk_ap, FD.sCont_ap, FD.sIf_ap, FD.sSet_ap, FD.sSetL_ap, FD.sDrop_ap, FD.sRet_ap, FD.sRetN_ap, FD.sFor_ap, FD.sAsg_ap, FD.sRaise_ap, FD.sAppend_ap, FD.sSetIx_ap, FD.eC_ap, FD.eVar_0, FD.eVar_s, FD.e1_ap, FD.e2_ap, FD.t1_ap, FD.t2_ap, FD.eT_ap, FD.tAnd_ap, FD.tOr_ap, FD.tNot_ap, FD.eIf_ap, FD.aNil_ap, FD.aCons_ap, FD.eTup_ap, FD.lLst_ap, FD.eL_ap, FD.eB_ap, FD.eCallR_ap, FD.eAnd_ap, FD.eOr_ap, FD.eNot_ap, FD.eChain_ap, FD.oSeq_ap, FD.oRange_ap, FD.oNone_ap, FD.oInt_ap, FD.lCut_ap, FD.gCutL_lst, FD.gCutL_fls, FD.frzD_int, FD.frzD_bl, FD.frzD_str, FD.frzD_non, FD.frzD_nil, FD.frzD_lst, FD.frzD_fls, FD.outS_nx, FD.outS_rt, FD.outS_exc, FD.runD_eq, FD.Out.bind_ok, FD.Out.bind_exc, FD.Out.bind_bad, FD.stE_ok, FD.stE_exc, FD.stE_bad, FD.andThen_nx, FD.andThen_bk, FD.andThen_ct, FD.andThen_rt, FD.andThen_exc, FD.andThen_bad, FD.ofO_some, FD.ofO_none, FD.Lo.d_sh, FD.Lo.d_ol, FD.Lo.d_od, FD.frz_nil, FD.frz_cons, FD.frz1_0, FD.frz1_n, FD.frz1_s, FD.uName_ap, FD.uTup_ap, FD.uCons_ap, FD.uNil_ap, FD.turn_nx, FD.turn_ct, FD.turn_bk, FD.turn_rt, FD.turn_exc, FD.forD_nil, FD.forD_n, FD.atI_0, FD.atI_1, FD.atI_2, FD.atI_3, FD.unset_rt, FD.unset_nx, FD.unset_bk, FD.unset_ct, Option.bind_some, Option.map_some, FD.gI_int, FD.gI0_int, FD.cI_int, FD.gAdd_int, FD.gNeg_int, FD.eqD_int, FD.eqD_str, FD.eqD_bl, FD.eqD_non, FD.neg2_eq, FD.blD_bl, FD.truD_non, FD.truD_bl, FD.truD_int, FD.truD_tup, FD.truD_lst, FD.truD_fls, FD.truD_dic, FD.Dt.seq_tup, FD.Dt.seq_lst, FD.Dt.seq_fls, FD.gLen_tup, FD.gLen_lst, FD.gLen_fls, FD.gInt_int, FD.gInt_bl, FD.gAbs_int, FD.gGcd_int, FD.gIntA_int, FD.gIntA_bl, FD.gIx_tup, FD.gIx_lst, FD.gIx_fls, FD.isi_int_int, FD.isi_int_bool, FD.isi_bool_int, FD.isi_bool_bool, FD.isi_tup, FD.isi_lst, List.map_cons, List.map_nil, List.length_cons, List.length_nil, List.cons_append, List.nil_append, List.set_cons_zero, List.set_cons_succ, List.getElem?_cons_zero, List.getElem?_cons_succ, Nat.reduceAdd, Nat.reduceSub, Nat.zero_add, Nat.sub_self, List.replicate_zero, List.replicate_succ, Nat.reduceLeDiff, if_true, if_false, Bool.false_eq_true, Bool.not_true, Bool.not_false, decide_eq_true_eq, dv, nzB_of z19, nzB_of z8, nzB_of z4, nzB_of z3, hs, lt, nzB_of z128, nzB_of zl, hat, Int.reduceBEq, eCut_ap, hf, str_7, str_m5, mr, k1]
  · obtain ⟨c0, r, rfl⟩ := List.exists_cons_of_ne_nil hne
    have it := item0 c0 r (by have := ht.1; omega)
    have zl' : ((((r.length + 1 : Nat)) : Int) + 1) ≠ 0 := zl
    have hat' : (p.fmod 128).fmod ((((r.length + 1 : Nat)) : Int) + 1) = at_ := hat
    by_cases h45 : c0 = 45
    · have hb : (S [c0] == S [45]) = true := by rw [h45]; exact beq_self_eq_true _
      have cf := cut_from ht (by decide) (show (0 : Int) ≤ 1 by decide)
      refine ⟨_, (ht.drop 1).mono (by decide), ?_⟩
      simp -implicitDefEqProofs only [FD.sSeq_ap, FD.sNext_ap, FD.sBrk_ap, FD.sCont_ap, FD.sIf_ap, FD.sSet_ap, FD.sSetL_ap, FD.sDrop_ap, FD.sRet_ap, FD.sRetN_ap, FD.sFor_ap, FD.sAsg_ap, FD.sRaise_ap, FD.sAppend_ap, FD.sSetIx_ap, FD.eC_ap, FD.eVar_0, FD.eVar_s, FD.e1_ap, FD.e2_ap, FD.t1_ap, FD.t2_ap, FD.eT_ap, FD.tAnd_ap, FD.tOr_ap, FD.tNot_ap, FD.eIf_ap, FD.aNil_ap, FD.aCons_ap, FD.eTup_ap, FD.lLst_ap, FD.eL_ap, FD.eB_ap, FD.eCallR_ap, FD.eAnd_ap, FD.eOr_ap, FD.eNot_ap, FD.eChain_ap, FD.oSeq_ap, FD.oRange_ap, FD.oNone_ap, FD.oInt_ap, FD.lCut_ap, FD.gCutL_lst, FD.gCutL_fls, FD.frzD_int, FD.frzD_bl, FD.frzD_str, FD.frzD_non, FD.frzD_nil, FD.frzD_lst, FD.frzD_fls, FD.outS_nx, FD.outS_rt, FD.outS_exc, FD.runD_eq, FD.Out.bind_ok, FD.Out.bind_exc, FD.Out.bind_bad, FD.stE_ok, FD.stE_exc, FD.stE_bad, FD.andThen_nx, FD.andThen_bk, FD.andThen_ct, FD.andThen_rt, FD.andThen_exc, FD.andThen_bad, FD.ofO_some, FD.ofO_none, FD.Lo.d_sh, FD.Lo.d_ol, FD.Lo.d_od, FD.frz_nil, FD.frz_cons, FD.frz1_0, FD.frz1_n, FD.frz1_s, FD.uName_ap, FD.uTup_ap, FD.uCons_ap, FD.uNil_ap, FD.turn_nx, FD.turn_ct, FD.turn_bk, FD.turn_rt, FD.turn_exc, FD.forD_nil, FD.forD_n, FD.atI_0, FD.atI_1, FD.atI_2, FD.atI_3, FD.unset_rt, FD.unset_nx, FD.unset_bk, FD.unset_ct, Option.bind_some, Option.map_some, FD.gI_int, FD.gI0_int, FD.cI_int, FD.gAdd_int, FD.gNeg_int, FD.eqD_int, FD.eqD_str, FD.eqD_bl, FD.eqD_non, FD.neg2_eq, FD.blD_bl, FD.truD_non, FD.truD_bl, FD.truD_int, FD.truD_tup, FD.truD_lst, FD.truD_fls, FD.truD_dic, FD.Dt.seq_tup, FD.Dt.seq_lst, FD.Dt.seq_fls, FD.gLen_tup, FD.gLen_lst, FD.gLen_fls, FD.gInt_int, FD.gInt_bl, FD.gAbs_int, FD.gGcd_int, FD.gIntA_int, FD.gIntA_bl, FD.gIx_tup, FD.gIx_lst, FD.gIx_fls, FD.isi_int_int, FD.isi_int_bool, FD.isi_bool_int, FD.isi_bool_bool, FD.isi_tup, FD.isi_lst, List.map_cons, List.map_nil, List.length_cons, List.length_nil, List.cons_append, List.nil_append, List.set_cons_zero, List.set_cons_succ, List.getElem?_cons_zero, List.getElem?_cons_succ, Nat.reduceAdd, Nat.reduceSub, Nat.zero_add, Nat.sub_self, List.replicate_zero, List.replicate_succ, Nat.reduceLeDiff, if_true, if_false, Bool.false_eq_true, Bool.not_true, Bool.not_false, decide_eq_true_eq, dv, nzB_of z19, nzB_of z8, nzB_of z4, nzB_of z3, hs, lt, nzB_of z128, nzB_of zl', hat', Int.reduceBEq, eCut_ap, it, str_dash, hb, cf]
      rfl
    · have hb : (S [c0] == S [45]) = false := by
        rw [beq_eq_false_iff_ne]
        intro z
        have := S_inj z
        simp only [List.cons.injEq, and_true] at this
        exact h45 this
      have p3 : Pl 1 [45] := ⟨by simp, by simp⟩
      have k1 := cat_pl p3 ht (by decide)
      refine ⟨_, (p3.app ht).mono (by decide), ?_⟩
      simp -implicitDefEqProofs only [FD.sSeq_ap, FD.sNext_ap, FD.sBrk_ap, FD.sCont_ap, FD.sIf_ap, FD.sSet_ap, FD.sSetL_ap, FD.sDrop_ap, FD.sRet_ap, FD.sRetN_ap, FD.sFor_ap, FD.sAsg_ap, FD.sRaise_ap, FD.sAppend_ap, FD.sSetIx_ap, FD.eC_ap, FD.eVar_0, FD.eVar_s, FD.e1_ap, FD.e2_ap, FD.t1_ap, FD.t2_ap, FD.eT_ap, FD.tAnd_ap, FD.tOr_ap, FD.tNot_ap, FD.eIf_ap, FD.aNil_ap, FD.aCons_ap, FD.eTup_ap, FD.lLst_ap, FD.eL_ap, FD.eB_ap, FD.eCallR_ap, FD.eAnd_ap, FD.eOr_ap, FD.eNot_ap, FD.eChain_ap, FD.oSeq_ap, FD.oRange_ap, FD.oNone_ap, FD.oInt_ap, FD.lCut_ap, FD.gCutL_lst, FD.gCutL_fls, FD.frzD_int, FD.frzD_bl, FD.frzD_str, FD.frzD_non, FD.frzD_nil, FD.frzD_lst, FD.frzD_fls, FD.outS_nx, FD.outS_rt, FD.outS_exc, FD.runD_eq, FD.Out.bind_ok, FD.Out.bind_exc, FD.Out.bind_bad, FD.stE_ok, FD.stE_exc, FD.stE_bad, FD.andThen_nx, FD.andThen_bk, FD.andThen_ct, FD.andThen_rt, FD.andThen_exc, FD.andThen_bad, FD.ofO_some, FD.ofO_none, FD.Lo.d_sh, FD.Lo.d_ol, FD.Lo.d_od, FD.frz_nil, FD.frz_cons, FD.frz1_0, FD.frz1_n, FD.frz1_s, FD.uName_ap, FD.uTup_ap, FD.uCons_ap, FD.uNil_ap, FD.turn_nx, FD.turn_ct, FD.turn_bk, FD.turn_rt, FD.turn_exc, FD.forD_nil, FD.forD_n, FD.atI_0, FD.atI_1, FD.atI_2, FD.atI_3, FD.unset_rt, FD.unset_nx, FD.unset_bk, FD.unset_ct, Option.bind_some, Option.map_some, FD.gI_int, FD.gI0_int, FD.cI_int, FD.gAdd_int, FD.gNeg_int, FD.eqD_int, FD.eqD_str, FD.eqD_bl, FD.eqD_non, FD.neg2_eq, FD.blD_bl, FD.truD_non, FD.truD_bl, FD.truD_int, FD.truD_tup, FD.truD_lst, FD.truD_fls, FD.truD_dic, FD.Dt.seq_tup, FD.Dt.seq_lst, FD.Dt.seq_fls, FD.gLen_tup, FD.gLen_lst, FD.gLen_fls, FD.gInt_int, FD.gInt_bl, FD.gAbs_int, FD.gGcd_int, FD.gIntA_int, FD.gIntA_bl, FD.gIx_tup, FD.gIx_lst, FD.gIx_fls, FD.isi_int_int, FD.isi_int_bool, FD.isi_bool_int, FD.isi_bool_bool, FD.isi_tup, FD.isi_lst, List.map_cons, List.map_nil, List.length_cons, List.length_nil, List.cons_append, List.nil_append, List.set_cons_zero, List.set_cons_succ, List.getElem?_cons_zero, List.getElem?_cons_succ, Nat.reduceAdd, Nat.reduceSub, Nat.zero_add, Nat.sub_self, List.replicate_zero, List.replicate_succ, Nat.reduceLeDiff, if_true, if_false, Bool.false_eq_true, Bool.not_true, Bool.not_false, decide_eq_true_eq, dv, nzB_of z19, nzB_of z8, nzB_of z4, nzB_of z3, hs, lt, nzB_of z128, nzB_of zl', hat', Int.reduceBEq, eCut_ap, it, str_dash, hb, k1]
end Lk01

set_option exponentiation.threshold 4000
-- NODS
namespace Lk01
open PySem L2 FD SX TL
variable {K : PySem.W.Frag} {cs : Cs}
def odds : List String := ["", "-", "/", "-0", "+3", "3/1", "2/4", "0/1", "0/5", "1/0", "0/0", "1/-2", "-1/-2", "--1", "1//2", "1/2/3", "1.5", "1_000", "00", "01", " 1", "1 ", "1\n", "\n1", "1e3", "a", "-/2", "1/", "/2", "-1/", "-0/1", "1/02", "1/00", "-01/2", "1 /2", "1/ 2", "1/+2", "- 1", "-1/1", "4/2"]
theorem odds_ok : ∀ s ∈ odds, ((Str.ofString s).cps.toList.length ≤ 10 ∧ ∀ c ∈ (Str.ofString s).cps.toList, c < 128) := by decide
def oddD : List Dt := odds.map fun s => Dt.str (Str.ofString s)
theorem odd_at {k : Int} (h0 : 0 ≤ k) (h1 : k < 40) : ∃ t, Pl 10 t ∧ gIx (.lst oddD) (.int k) = some (.str (S t)) := by
  have hl : k < (odds.length : Int) := h1
  obtain ⟨s, e, e2⟩ := atI_in (xs := odds) h0 hl
  have hm := odds_ok s (List.mem_of_getElem? e2)
  refine ⟨(Str.ofString s).cps.toList, hm, ?_⟩
  show atI (odds.map fun s => Dt.str (Str.ofString s)) k = _
  rw [atI_map, e, S_tl]
  rfl
theorem e_odd (z : Int) : ∃ t, Pl 10 t ∧ m__law_odd K cs [.int z] = .ok (.str (S t)) := by
  have e0 := Int.fmod_nonneg_of_pos z (show (0 : Int) < 40 by decide)
  have e1 := Int.fmod_lt_of_pos z (show (0 : Int) < 40 by decide)
  obtain ⟨t, ht, e⟩ := odd_at e0 e1
  refine ⟨t, ht, ?_⟩
  have h40 : (40 : Int) ≠ 0 := by decide
  have hx : ∀ k, gIx (.lst oddD) k = gIx (.lst [.str (Str.ofString ""), .str (Str.ofString "-"), .str (Str.ofString "/"), .str (Str.ofString "-0"), .str (Str.ofString "+3"), .str (Str.ofString "3/1"), .str (Str.ofString "2/4"), .str (Str.ofString "0/1"), .str (Str.ofString "0/5"), .str (Str.ofString "1/0"), .str (Str.ofString "0/0"), .str (Str.ofString "1/-2"), .str (Str.ofString "-1/-2"), .str (Str.ofString "--1"), .str (Str.ofString "1//2"), .str (Str.ofString "1/2/3"), .str (Str.ofString "1.5"), .str (Str.ofString "1_000"), .str (Str.ofString "00"), .str (Str.ofString "01"), .str (Str.ofString " 1"), .str (Str.ofString "1 "), .str (Str.ofString "1\n"), .str (Str.ofString "\n1"), .str (Str.ofString "1e3"), .str (Str.ofString "a"), .str (Str.ofString "-/2"), .str (Str.ofString "1/"), .str (Str.ofString "/2"), .str (Str.ofString "-1/"), .str (Str.ofString "-0/1"), .str (Str.ofString "1/02"), .str (Str.ofString "1/00"), .str (Str.ofString "-01/2"), .str (Str.ofString "1 /2"), .str (Str.ofString "1/ 2"), .str (Str.ofString "1/+2"), .str (Str.ofString "- 1"), .str (Str.ofString "-1/1"), .str (Str.ofString "4/2")]) k := fun _ => rfl
  rw [hx] at e
  have n16 : (16 : Nat) ≤ 16777216 := by decide
  have n14 : (14 : Nat) ≤ 16777216 := by decide
  have n10 : (10 : Nat) ≤ 16777216 := by decide
  have n30 : (16 + 14 : Nat) ≤ 16777216 := by decide
  have n40 : (16 + 14 + 10 : Nat) ≤ 16777216 := by decide
  have m30 : (30 : Nat) ≤ 16777216 := by decide
  have m40 : (40 : Nat) ≤ 16777216 := by decide
  unfold m__law_odd argN b__law_odd
  simp only [gIx_lst] at e
  simp -implicitDefEqProofs only [FD.sSeq_ap, FD.sNext_ap, FD.sBrk_ap, FD.sCont_ap, FD.sIf_ap, FD.sSet_ap, FD.sSetL_ap, FD.sDrop_ap, FD.sRet_ap, FD.sRetN_ap, FD.sFor_ap, FD.sAsg_ap, FD.sRaise_ap, FD.sAppend_ap, FD.sSetIx_ap, FD.eC_ap, FD.eVar_0, FD.eVar_s, FD.e1_ap, FD.e2_ap, FD.t1_ap, FD.t2_ap, FD.eT_ap, FD.tAnd_ap, FD.tOr_ap, FD.tNot_ap, FD.eIf_ap, FD.aNil_ap, FD.aCons_ap, FD.eTup_ap, FD.lLst_ap, FD.eL_ap, FD.eB_ap, FD.eCallR_ap, FD.eAnd_ap, FD.eOr_ap, FD.eNot_ap, FD.eChain_ap, FD.oSeq_ap, FD.oRange_ap, FD.oNone_ap, FD.oInt_ap, FD.lCut_ap, FD.gCutL_lst, FD.gCutL_fls, FD.frzD_int, FD.frzD_bl, FD.frzD_str, FD.frzD_non, FD.frzD_nil, FD.frzD_lst, FD.frzD_fls, FD.outS_nx, FD.outS_rt, FD.outS_exc, FD.runD_eq, FD.Out.bind_ok, FD.Out.bind_exc, FD.Out.bind_bad, FD.stE_ok, FD.stE_exc, FD.stE_bad, FD.andThen_nx, FD.andThen_bk, FD.andThen_ct, FD.andThen_rt, FD.andThen_exc, FD.andThen_bad, FD.ofO_some, FD.ofO_none, FD.Lo.d_sh, FD.Lo.d_ol, FD.Lo.d_od, FD.frz_nil, FD.frz_cons, FD.frz1_0, FD.frz1_n, FD.frz1_s, FD.uName_ap, FD.uTup_ap, FD.uCons_ap, FD.uNil_ap, FD.turn_nx, FD.turn_ct, FD.turn_bk, FD.turn_rt, FD.turn_exc, FD.forD_nil, FD.forD_n, FD.atI_0, FD.atI_1, FD.atI_2, FD.atI_3, FD.unset_rt, FD.unset_nx, FD.unset_bk, FD.unset_ct, Option.bind_some, Option.map_some, FD.gI_int, FD.gI0_int, FD.cI_int, FD.gAdd_int, FD.gNeg_int, FD.eqD_int, FD.eqD_str, FD.eqD_bl, FD.eqD_non, FD.neg2_eq, FD.blD_bl, FD.truD_non, FD.truD_bl, FD.truD_int, FD.truD_tup, FD.truD_lst, FD.truD_fls, FD.truD_dic, FD.Dt.seq_tup, FD.Dt.seq_lst, FD.Dt.seq_fls, FD.gLen_tup, FD.gLen_lst, FD.gLen_fls, FD.gInt_int, FD.gInt_bl, FD.gAbs_int, FD.gGcd_int, FD.gIntA_int, FD.gIntA_bl, FD.gIx_tup, FD.gIx_lst, FD.gIx_fls, FD.isi_int_int, FD.isi_int_bool, FD.isi_bool_int, FD.isi_bool_bool, FD.isi_tup, FD.isi_lst, List.map_cons, List.map_nil, List.length_cons, List.length_nil, List.cons_append, List.nil_append, List.set_cons_zero, List.set_cons_succ, List.getElem?_cons_zero, List.getElem?_cons_succ, Nat.reduceAdd, Nat.reduceSub, Nat.zero_add, Nat.sub_self, List.replicate_zero, List.replicate_succ, Nat.reduceLeDiff, if_true, if_false, Bool.false_eq_true, Bool.not_true, Bool.not_false, decide_eq_true_eq, gAdd_lst, nzB_of h40, n16, n14, n10, n30, n40, m30, m40, e]
end Lk01

set_option exponentiation.threshold 4000
-- NODS
namespace Lk01
open PySem L2 FD SX TL
variable {P : Program} {w : World} {K : PySem.W.Frag} {mg : Str → Option Value} {base : Heap} {cs : Cs}
theorem textL_ne (n d : Int) : textL n d ≠ [] := by
  have h : ∀ i, numI i ≠ [] := fun i => by
    unfold numI
    split
    · exact List.cons_ne_nil _ _
    · exact numL_ne _
  unfold textL
  split
  · exact h n
  · intro z
    exact h n (List.append_eq_nil_iff.mp z).1
theorem isi_str (s : Str) : gIsi [.str s, .ty "str"] = some (.bl true) := rfl
theorem neD_S (s : Str) : neD (.str s) (.str s) = some false := by
  show some (!(s == s)) = _
  rw [beq_self_eq_true]
  rfl
theorem plain (T : Tx P w K mg base cs) : ∀ ns : List Int, ns.length ≤ 63 → (∀ z ∈ ns, Builtin.Int.intBits z ≤ 1048576) → runD 7 (b_law K cs) [.fls (ns.map .int)] = .ok (.bl true) := by
  intro ns _ _
  obtain ⟨q, hq, h1, h2⟩ := e_number (K := K) (cs := cs) ns
  have b1 : q.num.natAbs < W60 ^ 10 := Nat.lt_of_lt_of_le h1 W61
  have b2 : (q.den : Int).natAbs < W60 ^ 10 := by rw [Int.natAbs_natCast]; exact Nat.lt_of_lt_of_le h2 W61
  have t1 := e_law_text (K := K) (cs := cs) h1 h2
  have t2 := e_exact_text (K := K) (cs := cs) (n := q.num) (d := (q.den : Int)) b1 b2
  have hp := pl_text b1 b2
  have hne := textL_ne q.num (q.den : Int)
  have t2' : m_exact_text K cs [fr q] = .ok (.str (S (textL q.num (q.den : Int)))) := t2
  generalize textL q.num (q.den : Int) = t at *
  obtain ⟨c6, k6⟩ := e_cell (K := K) (cs := cs) ns (k := 6) (by decide) (by decide)
  obtain ⟨c7, k7⟩ := e_cell (K := K) (cs := cs) ns (k := 7) (by decide) (by decide)
  obtain ⟨c8, k8⟩ := e_cell (K := K) (cs := cs) ns (k := 8) (by decide) (by decide)
  obtain ⟨c9, k9⟩ := e_cell (K := K) (cs := cs) ns (k := 9) (by decide) (by decide)
  obtain ⟨c10, k10⟩ := e_cell (K := K) (cs := cs) ns (k := 10) (by decide) (by decide)
  have A0 := asked T t (by have := hp.1; omega) hp.2
  have chg : ∀ w p : Int, ∃ t', m__law_changed K cs [.str (S t), .int (w.fmod 11), .int (p.fmod 1000000), fr q] = .ok (.str (S t')) ∧ m__law_asked K cs [.str (S t')] = .ok (.bl true) := fun w p => by
    obtain ⟨t', p', e⟩ := e_changed (K := K) (cs := cs) (t := t) (q := q) (hp.mono (by decide)) hne h1 h2 (Int.fmod_nonneg_of_pos w (show (0 : Int) < 11 by decide)) (Int.fmod_lt_of_pos w (show (0 : Int) < 11 by decide)) (Int.fmod_nonneg_of_pos p (show (0 : Int) < 1000000 by decide))
    exact ⟨t', e, asked T t' (by have := p'.1; omega) p'.2⟩
  obtain ⟨ta, ea, aa⟩ := chg c6 c7
  obtain ⟨tb, eb, ab⟩ := chg c8 c9
  obtain ⟨o, po, eo⟩ := e_odd (K := K) (cs := cs) c10
  have ao := asked T o (by have := po.1; omega) po.2
  have sB : smallB 2 = true := by decide
  have rg : rngD 0 (Int.toNat 2) = [.int 0, .int 1] := rfl
  have m20 : mulB 2 0 = true := by decide
  have m21 : mulB 2 1 = true := by decide
  have x0 : (2 : Int) * 0 = 0 := rfl
  have x1 : (2 : Int) * 1 = 2 := rfl
  have y0 : (6 : Int) + 0 = 6 := rfl
  have y1 : (6 : Int) + 2 = 8 := rfl
  have y2 : (7 : Int) + 0 = 7 := rfl
  have y3 : (7 : Int) + 2 = 9 := rfl
  have z11 : (11 : Int) ≠ 0 := by decide
  have zm : (1000000 : Int) ≠ 0 := by decide
  unfold b_law
  simp -implicitDefEqProofs only [FD.sSeq_ap, FD.sNext_ap, FD.sBrk_ap, FD.sCont_ap, FD.sIf_ap, FD.sSet_ap, FD.sSetL_ap, FD.sDrop_ap, FD.sRet_ap, FD.sRetN_ap, FD.sFor_ap, FD.sAsg_ap, FD.sRaise_ap, FD.sAppend_ap, FD.sSetIx_ap, FD.eC_ap, FD.eVar_0, FD.eVar_s, FD.e1_ap, FD.e2_ap, FD.t1_ap, FD.t2_ap, FD.eT_ap, FD.tAnd_ap, FD.tOr_ap, FD.tNot_ap, FD.eIf_ap, FD.aNil_ap, FD.aCons_ap, FD.eTup_ap, FD.lLst_ap, FD.eL_ap, FD.eB_ap, FD.eCallR_ap, FD.eAnd_ap, FD.eOr_ap, FD.eNot_ap, FD.eChain_ap, FD.oSeq_ap, FD.oRange_ap, FD.oNone_ap, FD.oInt_ap, FD.lCut_ap, FD.gCutL_lst, FD.gCutL_fls, FD.frzD_int, FD.frzD_bl, FD.frzD_str, FD.frzD_non, FD.frzD_nil, FD.frzD_lst, FD.frzD_fls, FD.outS_nx, FD.outS_rt, FD.outS_exc, FD.runD_eq, FD.Out.bind_ok, FD.Out.bind_exc, FD.Out.bind_bad, FD.stE_ok, FD.stE_exc, FD.stE_bad, FD.andThen_nx, FD.andThen_bk, FD.andThen_ct, FD.andThen_rt, FD.andThen_exc, FD.andThen_bad, FD.ofO_some, FD.ofO_none, FD.Lo.d_sh, FD.Lo.d_ol, FD.Lo.d_od, FD.frz_nil, FD.frz_cons, FD.frz1_0, FD.frz1_n, FD.frz1_s, FD.uName_ap, FD.uTup_ap, FD.uCons_ap, FD.uNil_ap, FD.turn_nx, FD.turn_ct, FD.turn_bk, FD.turn_rt, FD.turn_exc, FD.forD_nil, FD.forD_n, FD.atI_0, FD.atI_1, FD.atI_2, FD.atI_3, FD.unset_rt, FD.unset_nx, FD.unset_bk, FD.unset_ct, Option.bind_some, Option.map_some, FD.gI_int, FD.gI0_int, FD.cI_int, FD.gAdd_int, FD.gNeg_int, FD.eqD_int, FD.eqD_str, FD.eqD_bl, FD.eqD_non, FD.neg2_eq, FD.blD_bl, FD.truD_non, FD.truD_bl, FD.truD_int, FD.truD_tup, FD.truD_lst, FD.truD_fls, FD.truD_dic, FD.Dt.seq_tup, FD.Dt.seq_lst, FD.Dt.seq_fls, FD.gLen_tup, FD.gLen_lst, FD.gLen_fls, FD.gInt_int, FD.gInt_bl, FD.gAbs_int, FD.gGcd_int, FD.gIntA_int, FD.gIntA_bl, FD.gIx_tup, FD.gIx_lst, FD.gIx_fls, FD.isi_int_int, FD.isi_int_bool, FD.isi_bool_int, FD.isi_bool_bool, FD.isi_tup, FD.isi_lst, List.map_cons, List.map_nil, List.length_cons, List.length_nil, List.cons_append, List.nil_append, List.set_cons_zero, List.set_cons_succ, List.getElem?_cons_zero, List.getElem?_cons_succ, Nat.reduceAdd, Nat.reduceSub, Nat.zero_add, Nat.sub_self, List.replicate_zero, List.replicate_succ, Nat.reduceLeDiff, if_true, if_false, Bool.false_eq_true, Bool.not_true, Bool.not_false, decide_eq_true_eq, hq, t1, t2', isi_str, neD_S, A0, oRng_1, sB, rg, m20, m21, x0, x1, y0, y1, y2, y3, k6, k7, k8, k9, k10, nzB_of z11, nzB_of zm, ea, aa, eb, ab, e_long, eo, ao, frz_fr]
end Lk01

namespace Lk01
open PySem L2 PyProof.Rows PySem.Spec FD
/-! ### the head -/
theorem all_mk {w : World} {K : PySem.W.Frag} {h : Heap} {mg : Str → Option Value} {fa : Addr} (X : K.In h) (G : h.Ns mainGlobals mg) (hfa : mg "law" = some (.ref fa))
    {kt_PIECE : Tok} {kt_PIECE_DIGITS : Tok} {kt_MOST_DIGITS : Tok} {c_ZeroDenominator : Addr} {c_BadExact : Addr} {c_HouseError : Addr} {c_Refused : Addr} {c_NoAnswer : Addr} {c_Unfit : Addr} {nm_ZeroDenominator : Str} {q_ZeroDenominator : Str} {nsa_ZeroDenominator : Addr} {bs_ZeroDenominator : List Value} {sn_ZeroDenominator : List Str} {sub_ZeroDenominator : List Value} {ab_ZeroDenominator : Bool} {col_ZeroDenominator : Option Bool} {dd_ZeroDenominator : Option Addr} {m0_ZeroDenominator : Option Value} {m1_ZeroDenominator : Option Value} {m2_ZeroDenominator : Option Value} {m3_ZeroDenominator : Option Value} {m5_ZeroDenominator : Option Value} {fi_ZeroDenominator : Addr} {oc_ZeroDenominator : Value} {od_ZeroDenominator : Option Addr} {kV_ZeroDenominator : Value} {dc_ZeroDenominator : Value} {pm_ZeroDenominator : Value} {an_ZeroDenominator : Option Addr} {cda_ZeroDenominator : Addr} {ct_ZeroDenominator : Value} {cc_ZeroDenominator : Addr} {sl_ZeroDenominator : Array (Option Value)} {cl_ZeroDenominator : Value} {cld_ZeroDenominator : Option Addr} {csl_ZeroDenominator : Array (Option Value)} {ccl_ZeroDenominator : Value} {cdd_ZeroDenominator : Option Addr} {cvs_ZeroDenominator : Array Value} {ccs_ZeroDenominator : Array (Option Value)} {cf_ZeroDenominator : Str} {ctk_ZeroDenominator : Tok} {nm_BadExact : Str} {q_BadExact : Str} {nsa_BadExact : Addr} {bs_BadExact : List Value} {sn_BadExact : List Str} {sub_BadExact : List Value} {ab_BadExact : Bool} {col_BadExact : Option Bool} {dd_BadExact : Option Addr} {m0_BadExact : Option Value} {m1_BadExact : Option Value} {m2_BadExact : Option Value} {m3_BadExact : Option Value} {m5_BadExact : Option Value} {fi_BadExact : Addr} {oc_BadExact : Value} {od_BadExact : Option Addr} {kV_BadExact : Value} {dc_BadExact : Value} {pm_BadExact : Value} {an_BadExact : Option Addr} {cda_BadExact : Addr} {ct_BadExact : Value} {cc_BadExact : Addr} {sl_BadExact : Array (Option Value)} {cl_BadExact : Value} {cld_BadExact : Option Addr} {csl_BadExact : Array (Option Value)} {ccl_BadExact : Value} {cdd_BadExact : Option Addr} {cvs_BadExact : Array Value} {ccs_BadExact : Array (Option Value)} {cf_BadExact : Str} {ctk_BadExact : Tok} {f_integer_text : Addr} {oc_integer_text : Value} {od_integer_text : Option Addr} {kV_integer_text : Value} {dc_integer_text : Value} {pm_integer_text : Value} {an_integer_text : Option Addr} {cd_integer_text : Value} {ct_integer_text : Value} {sl_integer_text : Array (Option Value)} {f_exact_text : Addr} {oc_exact_text : Value} {od_exact_text : Option Addr} {kV_exact_text : Value} {dc_exact_text : Value} {pm_exact_text : Value} {an_exact_text : Option Addr} {cd_exact_text : Value} {ct_exact_text : Value} {sl_exact_text : Array (Option Value)} {f__law_cell : Addr} {oc__law_cell : Value} {od__law_cell : Option Addr} {kV__law_cell : Value} {dc__law_cell : Value} {pm__law_cell : Value} {an__law_cell : Option Addr} {cd__law_cell : Value} {ct__law_cell : Value} {sl__law_cell : Array (Option Value)} {f__law_shared : Addr} {oc__law_shared : Value} {od__law_shared : Option Addr} {kV__law_shared : Value} {dc__law_shared : Value} {pm__law_shared : Value} {an__law_shared : Option Addr} {cd__law_shared : Value} {ct__law_shared : Value} {sl__law_shared : Array (Option Value)} {f__law_number : Addr} {oc__law_number : Value} {od__law_number : Option Addr} {kV__law_number : Value} {dc__law_number : Value} {pm__law_number : Value} {an__law_number : Option Addr} {cd__law_number : Value} {ct__law_number : Value} {sl__law_number : Array (Option Value)} {f__law_text : Addr} {oc__law_text : Value} {od__law_text : Option Addr} {kV__law_text : Value} {dc__law_text : Value} {pm__law_text : Value} {an__law_text : Option Addr} {cd__law_text : Value} {ct__law_text : Value} {sl__law_text : Array (Option Value)} {f__law_changed : Addr} {oc__law_changed : Value} {od__law_changed : Option Addr} {kV__law_changed : Value} {dc__law_changed : Value} {pm__law_changed : Value} {an__law_changed : Option Addr} {cd__law_changed : Value} {ct__law_changed : Value} {sl__law_changed : Array (Option Value)} {f__law_odd : Addr} {oc__law_odd : Value} {od__law_odd : Option Addr} {kV__law_odd : Value} {dc__law_odd : Value} {pm__law_odd : Value} {an__law_odd : Option Addr} {cd__law_odd : Value} {ct__law_odd : Value} {sl__law_odd : Array (Option Value)} {f_exact : Addr} {oc_exact : Value} {od_exact : Option Addr} {kV_exact : Value} {dc_exact : Value} {pm_exact : Value} {an_exact : Option Addr} {cd_exact : Value} {ct_exact : Value} {sl_exact : Array (Option Value)} {dt_exact : Addr} {dk_exact : Tok} {do_exact : Value} {dd_exact : Option Addr} {dn_exact : Nat} {ds_exact : Array (Option Value)} {f_is_digits : Addr} {oc_is_digits : Value} {od_is_digits : Option Addr} {kV_is_digits : Value} {dc_is_digits : Value} {pm_is_digits : Value} {an_is_digits : Option Addr} {cd_is_digits : Value} {ct_is_digits : Value} {sl_is_digits : Array (Option Value)} {f_read_exact : Addr} {oc_read_exact : Value} {od_read_exact : Option Addr} {kV_read_exact : Value} {dc_read_exact : Value} {pm_read_exact : Value} {an_read_exact : Option Addr} {cd_read_exact : Value} {ct_read_exact : Value} {sl_read_exact : Array (Option Value)} {f__law_is_integer : Addr} {oc__law_is_integer : Value} {od__law_is_integer : Option Addr} {kV__law_is_integer : Value} {dc__law_is_integer : Value} {pm__law_is_integer : Value} {an__law_is_integer : Option Addr} {cd__law_is_integer : Value} {ct__law_is_integer : Value} {sl__law_is_integer : Array (Option Value)} {f__law_digits : Addr} {oc__law_digits : Value} {od__law_digits : Option Addr} {kV__law_digits : Value} {dc__law_digits : Value} {pm__law_digits : Value} {an__law_digits : Option Addr} {cd__law_digits : Value} {ct__law_digits : Value} {sl__law_digits : Array (Option Value)} {f__law_read : Addr} {oc__law_read : Value} {od__law_read : Option Addr} {kV__law_read : Value} {dc__law_read : Value} {pm__law_read : Value} {an__law_read : Option Addr} {cd__law_read : Value} {ct__law_read : Value} {sl__law_read : Array (Option Value)} {f__law_asked : Addr} {oc__law_asked : Value} {od__law_asked : Option Addr} {kV__law_asked : Value} {dc__law_asked : Value} {pm__law_asked : Value} {an__law_asked : Option Addr} {cd__law_asked : Value} {ct__law_asked : Value} {sl__law_asked : Array (Option Value)} {f__law_long : Addr} {oc__law_long : Value} {od__law_long : Option Addr} {kV__law_long : Value} {dc__law_long : Value} {pm__law_long : Value} {an__law_long : Option Addr} {cd__law_long : Value} {ct__law_long : Value} {sl__law_long : Array (Option Value)} {f_law : Addr} {oc_law : Value} {od_law : Option Addr} {kV_law : Value} {dc_law : Value} {pm_law : Value} {an_law : Option Addr} {cd_law : Value} {ct_law : Value} {sl_law : Array (Option Value)}
    (z_ValueError : PySem.W.nsIn K mainGlobals "ValueError" = some none)
    (z_abs : PySem.W.nsIn K mainGlobals "abs" = some none)
    (z_bool : PySem.W.nsIn K mainGlobals "bool" = some none)
    (z_divmod : PySem.W.nsIn K mainGlobals "divmod" = some none)
    (z_int : PySem.W.nsIn K mainGlobals "int" = some none)
    (z_isinstance : PySem.W.nsIn K mainGlobals "isinstance" = some none)
    (z_len : PySem.W.nsIn K mainGlobals "len" = some none)
    (z_range : PySem.W.nsIn K mainGlobals "range" = some none)
    (z_str : PySem.W.nsIn K mainGlobals "str" = some none)
    (z_tuple : PySem.W.nsIn K mainGlobals "tuple" = some none)
    (z_gcd : PySem.W.nsIn K mainGlobals "gcd" = some (some (.builtin "math.gcd")))
    (kv_PIECE : PySem.W.nsIn K mainGlobals "PIECE" = some (some (.int 1000000000000000000000000000000000000000000000000000000000000 kt_PIECE)))
    (kv_PIECE_DIGITS : PySem.W.nsIn K mainGlobals "PIECE_DIGITS" = some (some (.int 60 kt_PIECE_DIGITS)))
    (kv_MOST_DIGITS : PySem.W.nsIn K mainGlobals "MOST_DIGITS" = some (some (.int 40 kt_MOST_DIGITS)))
    (a_ZeroDenominator : PySem.W.nsIn K mainGlobals "ZeroDenominator" = some (some (.ref c_ZeroDenominator)))
    (a_BadExact : PySem.W.nsIn K mainGlobals "BadExact" = some (some (.ref c_BadExact)))
    (a_HouseError : PySem.W.nsIn K mainGlobals "HouseError" = some (some (.ref c_HouseError)))
    (a_Refused : PySem.W.nsIn K mainGlobals "Refused" = some (some (.ref c_Refused)))
    (a_NoAnswer : PySem.W.nsIn K mainGlobals "NoAnswer" = some (some (.ref c_NoAnswer)))
    (a_Unfit : PySem.W.nsIn K mainGlobals "Unfit" = some (some (.ref c_Unfit)))
    (xl_ZeroDenominator : K.lookup c_ZeroDenominator = some (excClassObj nm_ZeroDenominator q_ZeroDenominator c_ZeroDenominator nsa_ZeroDenominator bs_ZeroDenominator [.ref c_Refused, .ref c_HouseError, .type "ValueError", .type "Exception", .type "BaseException", .type "object"] true sn_ZeroDenominator sub_ZeroDenominator ab_ZeroDenominator col_ZeroDenominator dd_ZeroDenominator m0_ZeroDenominator m1_ZeroDenominator m2_ZeroDenominator m3_ZeroDenominator m5_ZeroDenominator "ValueError.__new__"))
    (sa_ZeroDenominator : PySem.W.findIn K (.ref c_ZeroDenominator) "__setattr__" = some (some (.builtin "object.__setattr__")))
    (ic_ZeroDenominator : PySem.W.findIn K (.ref c_ZeroDenominator) "__init__" = some (some (.ref fi_ZeroDenominator)))
    (ti_ZeroDenominator : PySem.W.typeIn K (.ref fi_ZeroDenominator) = some (.type "function"))
    (kc_ZeroDenominator : PySem.W.keepIn K (.ref c_ZeroDenominator) = true)
    (ex_ZeroDenominator : PySem.W.subIn K (.ref c_ZeroDenominator) (.type "BaseException") = some true)
    (ev_ZeroDenominator : PySem.W.subIn K (.ref c_ZeroDenominator) (.type "ValueError") = some true)
    (ty_ZeroDenominator : PySem.W.typeIn K (.ref c_ZeroDenominator) = some (.type "type"))
    (su_ZeroDenominator : PySem.W.mroIn K c_ZeroDenominator (.ref c_ZeroDenominator) = some true)
    (si_ZeroDenominator : PySem.W.ks_superIn K c_ZeroDenominator c_ZeroDenominator "__init__" = some (some (.builtin "ValueError.__init__")))
    (lf_ZeroDenominator : K.lookup fi_ZeroDenominator = some ⟨oc_ZeroDenominator, od_ZeroDenominator, .func (PySem.W.ksFn "__init__" "ZeroDenominator.__init__" (defArgs s_ZeroDenominator) (defBody s_ZeroDenominator) (defScope s_ZeroDenominator) .none kV_ZeroDenominator dc_ZeroDenominator pm_ZeroDenominator an_ZeroDenominator (.ref cda_ZeroDenominator) ct_ZeroDenominator cc_ZeroDenominator), sl_ZeroDenominator⟩)
    (cd_ZeroDenominator : PySem.W.codeIn K (.ref cda_ZeroDenominator) "ZeroDenominator.__init__" = true)
    (ce_ZeroDenominator : K.lookup cc_ZeroDenominator = some ⟨cl_ZeroDenominator, cld_ZeroDenominator, .cell (some (.ref c_ZeroDenominator)), csl_ZeroDenominator⟩)
    (co_ZeroDenominator : K.lookup cda_ZeroDenominator = some ⟨ccl_ZeroDenominator, cdd_ZeroDenominator, .fields cvs_ZeroDenominator, ccs_ZeroDenominator⟩)
    (cs_ZeroDenominator : cvs_ZeroDenominator[2]? = some (.str cf_ZeroDenominator ctk_ZeroDenominator))
    (cf_ZeroDenominator : ((PySem.Challenge.pw_bidehall_k01_exact_texts.main.file : Str) == cf_ZeroDenominator) = true)
    (no_ZeroDenominator_text : PySem.W.findIn K (.ref c_ZeroDenominator) "text" = some none)
    (hg_ZeroDenominator : PySem.W.findIn K (.ref c_ZeroDenominator) "__getattribute__" = some (some (.builtin "BaseException.__getattribute__")))
    (hk_ZeroDenominator : PySem.W.findIn K (.ref c_ZeroDenominator) "__getattr__" = some none)
    (hd_ZeroDenominator : PySem.W.hasDictIn K c_ZeroDenominator = true)
    (ha_ZeroDenominator : PySem.W.findIn K (.ref c_ZeroDenominator) "__class__" = some (some (.builtin "object.__class__")))
    (ho_ZeroDenominator : PySem.W.mroIn K c_ZeroDenominator (.type "object") = some true)
    (sb_ZeroDenominator_BadExact : PySem.W.subIn K (.ref c_ZeroDenominator) (.ref c_BadExact) = some false)
    (sb_ZeroDenominator_ZeroDenominator : PySem.W.subIn K (.ref c_ZeroDenominator) (.ref c_ZeroDenominator) = some true)
    (sb_ZeroDenominator_Unfit : PySem.W.subIn K (.ref c_ZeroDenominator) (.ref c_Unfit) = some false)
    (ne_ZeroDenominator_Unfit : (Value.ref c_ZeroDenominator == Value.ref c_Unfit) = false)
    (sb_ZeroDenominator_NoAnswer : PySem.W.subIn K (.ref c_ZeroDenominator) (.ref c_NoAnswer) = some false)
    (ne_ZeroDenominator_NoAnswer : (Value.ref c_ZeroDenominator == Value.ref c_NoAnswer) = false)
    (sb_ZeroDenominator_Refused : PySem.W.subIn K (.ref c_ZeroDenominator) (.ref c_Refused) = some true)
    (ne_ZeroDenominator_Refused : (Value.ref c_ZeroDenominator == Value.ref c_Refused) = false)
    (sb_ZeroDenominator_HouseError : PySem.W.subIn K (.ref c_ZeroDenominator) (.ref c_HouseError) = some true)
    (ne_ZeroDenominator_HouseError : (Value.ref c_ZeroDenominator == Value.ref c_HouseError) = false)
    (sb_ZeroDenominator_ValueError : PySem.W.subIn K (.ref c_ZeroDenominator) (.type "ValueError") = some true)
    (xl_BadExact : K.lookup c_BadExact = some (excClassObj nm_BadExact q_BadExact c_BadExact nsa_BadExact bs_BadExact [.ref c_Refused, .ref c_HouseError, .type "ValueError", .type "Exception", .type "BaseException", .type "object"] true sn_BadExact sub_BadExact ab_BadExact col_BadExact dd_BadExact m0_BadExact m1_BadExact m2_BadExact m3_BadExact m5_BadExact "ValueError.__new__"))
    (sa_BadExact : PySem.W.findIn K (.ref c_BadExact) "__setattr__" = some (some (.builtin "object.__setattr__")))
    (ic_BadExact : PySem.W.findIn K (.ref c_BadExact) "__init__" = some (some (.ref fi_BadExact)))
    (ti_BadExact : PySem.W.typeIn K (.ref fi_BadExact) = some (.type "function"))
    (kc_BadExact : PySem.W.keepIn K (.ref c_BadExact) = true)
    (ex_BadExact : PySem.W.subIn K (.ref c_BadExact) (.type "BaseException") = some true)
    (ev_BadExact : PySem.W.subIn K (.ref c_BadExact) (.type "ValueError") = some true)
    (ty_BadExact : PySem.W.typeIn K (.ref c_BadExact) = some (.type "type"))
    (su_BadExact : PySem.W.mroIn K c_BadExact (.ref c_BadExact) = some true)
    (si_BadExact : PySem.W.ks_superIn K c_BadExact c_BadExact "__init__" = some (some (.builtin "ValueError.__init__")))
    (lf_BadExact : K.lookup fi_BadExact = some ⟨oc_BadExact, od_BadExact, .func (PySem.W.ksFn "__init__" "BadExact.__init__" (defArgs s_BadExact) (defBody s_BadExact) (defScope s_BadExact) .none kV_BadExact dc_BadExact pm_BadExact an_BadExact (.ref cda_BadExact) ct_BadExact cc_BadExact), sl_BadExact⟩)
    (cd_BadExact : PySem.W.codeIn K (.ref cda_BadExact) "BadExact.__init__" = true)
    (ce_BadExact : K.lookup cc_BadExact = some ⟨cl_BadExact, cld_BadExact, .cell (some (.ref c_BadExact)), csl_BadExact⟩)
    (co_BadExact : K.lookup cda_BadExact = some ⟨ccl_BadExact, cdd_BadExact, .fields cvs_BadExact, ccs_BadExact⟩)
    (cs_BadExact : cvs_BadExact[2]? = some (.str cf_BadExact ctk_BadExact))
    (cf_BadExact : ((PySem.Challenge.pw_bidehall_k01_exact_texts.main.file : Str) == cf_BadExact) = true)
    (no_BadExact_text : PySem.W.findIn K (.ref c_BadExact) "text" = some none)
    (hg_BadExact : PySem.W.findIn K (.ref c_BadExact) "__getattribute__" = some (some (.builtin "BaseException.__getattribute__")))
    (hk_BadExact : PySem.W.findIn K (.ref c_BadExact) "__getattr__" = some none)
    (hd_BadExact : PySem.W.hasDictIn K c_BadExact = true)
    (ha_BadExact : PySem.W.findIn K (.ref c_BadExact) "__class__" = some (some (.builtin "object.__class__")))
    (ho_BadExact : PySem.W.mroIn K c_BadExact (.type "object") = some true)
    (sb_BadExact_BadExact : PySem.W.subIn K (.ref c_BadExact) (.ref c_BadExact) = some true)
    (sb_BadExact_ZeroDenominator : PySem.W.subIn K (.ref c_BadExact) (.ref c_ZeroDenominator) = some false)
    (ne_BadExact_ZeroDenominator : (Value.ref c_BadExact == Value.ref c_ZeroDenominator) = false)
    (sb_BadExact_Unfit : PySem.W.subIn K (.ref c_BadExact) (.ref c_Unfit) = some false)
    (ne_BadExact_Unfit : (Value.ref c_BadExact == Value.ref c_Unfit) = false)
    (sb_BadExact_NoAnswer : PySem.W.subIn K (.ref c_BadExact) (.ref c_NoAnswer) = some false)
    (ne_BadExact_NoAnswer : (Value.ref c_BadExact == Value.ref c_NoAnswer) = false)
    (sb_BadExact_Refused : PySem.W.subIn K (.ref c_BadExact) (.ref c_Refused) = some true)
    (ne_BadExact_Refused : (Value.ref c_BadExact == Value.ref c_Refused) = false)
    (sb_BadExact_HouseError : PySem.W.subIn K (.ref c_BadExact) (.ref c_HouseError) = some true)
    (ne_BadExact_HouseError : (Value.ref c_BadExact == Value.ref c_HouseError) = false)
    (sb_BadExact_ValueError : PySem.W.subIn K (.ref c_BadExact) (.type "ValueError") = some true)
    (ci_BadExact : PySem.W.isClsIn K c_BadExact = true)
    (ct_BadExact : PySem.W.typeIn K (.ref c_BadExact) = some (.type "type"))
    (cb_BadExact : PySem.W.subIn K (.ref c_BadExact) (.type "BaseException") = some true)
    (ci_ZeroDenominator : PySem.W.isClsIn K c_ZeroDenominator = true)
    (ct_ZeroDenominator : PySem.W.typeIn K (.ref c_ZeroDenominator) = some (.type "type"))
    (cb_ZeroDenominator : PySem.W.subIn K (.ref c_ZeroDenominator) (.type "BaseException") = some true)
    (ci_Unfit : PySem.W.isClsIn K c_Unfit = true)
    (ct_Unfit : PySem.W.typeIn K (.ref c_Unfit) = some (.type "type"))
    (cb_Unfit : PySem.W.subIn K (.ref c_Unfit) (.type "BaseException") = some true)
    (ci_NoAnswer : PySem.W.isClsIn K c_NoAnswer = true)
    (ct_NoAnswer : PySem.W.typeIn K (.ref c_NoAnswer) = some (.type "type"))
    (cb_NoAnswer : PySem.W.subIn K (.ref c_NoAnswer) (.type "BaseException") = some true)
    (ci_Refused : PySem.W.isClsIn K c_Refused = true)
    (ct_Refused : PySem.W.typeIn K (.ref c_Refused) = some (.type "type"))
    (cb_Refused : PySem.W.subIn K (.ref c_Refused) (.type "BaseException") = some true)
    (ci_HouseError : PySem.W.isClsIn K c_HouseError = true)
    (ct_HouseError : PySem.W.typeIn K (.ref c_HouseError) = some (.type "type"))
    (cb_HouseError : PySem.W.subIn K (.ref c_HouseError) (.type "BaseException") = some true)
    (any : PySem.W.nsIn K PySem.cStatics "thirdparty.any" = some none)
    (zsup : PySem.W.nsIn K mainGlobals "super" = some none)
    (hn : PySem.W.specialIn K (.builtin "object.__class__") "__get__" = some (some (.builtin "getset_descriptor.__get__")))
    (ht : PySem.W.takesIn K (.builtin "object.__class__") = some true)
    (a_integer_text : PySem.W.nsIn K mainGlobals "integer_text" = some (some (.ref f_integer_text)))
    (l_integer_text : K.lookup f_integer_text = some ⟨oc_integer_text, od_integer_text, .func (PySem.W.fnOf "integer_text" "integer_text" (defArgs s_integer_text) (defBody s_integer_text) (defScope s_integer_text) .none kV_integer_text dc_integer_text pm_integer_text an_integer_text cd_integer_text ct_integer_text), sl_integer_text⟩)
    (o_integer_text : PySem.W.codeIn K cd_integer_text "integer_text" = true)
    (k_integer_text : PySem.W.keepIn K (.ref f_integer_text) = true)
    (a_exact_text : PySem.W.nsIn K mainGlobals "exact_text" = some (some (.ref f_exact_text)))
    (l_exact_text : K.lookup f_exact_text = some ⟨oc_exact_text, od_exact_text, .func (PySem.W.fnOf "exact_text" "exact_text" (defArgs s_exact_text) (defBody s_exact_text) (defScope s_exact_text) .none kV_exact_text dc_exact_text pm_exact_text an_exact_text cd_exact_text ct_exact_text), sl_exact_text⟩)
    (o_exact_text : PySem.W.codeIn K cd_exact_text "exact_text" = true)
    (k_exact_text : PySem.W.keepIn K (.ref f_exact_text) = true)
    (a__law_cell : PySem.W.nsIn K mainGlobals "_law_cell" = some (some (.ref f__law_cell)))
    (l__law_cell : K.lookup f__law_cell = some ⟨oc__law_cell, od__law_cell, .func (PySem.W.fnOf "_law_cell" "_law_cell" (defArgs s__law_cell) (defBody s__law_cell) (defScope s__law_cell) .none kV__law_cell dc__law_cell pm__law_cell an__law_cell cd__law_cell ct__law_cell), sl__law_cell⟩)
    (o__law_cell : PySem.W.codeIn K cd__law_cell "_law_cell" = true)
    (k__law_cell : PySem.W.keepIn K (.ref f__law_cell) = true)
    (a__law_shared : PySem.W.nsIn K mainGlobals "_law_shared" = some (some (.ref f__law_shared)))
    (l__law_shared : K.lookup f__law_shared = some ⟨oc__law_shared, od__law_shared, .func (PySem.W.fnOf "_law_shared" "_law_shared" (defArgs s__law_shared) (defBody s__law_shared) (defScope s__law_shared) .none kV__law_shared dc__law_shared pm__law_shared an__law_shared cd__law_shared ct__law_shared), sl__law_shared⟩)
    (o__law_shared : PySem.W.codeIn K cd__law_shared "_law_shared" = true)
    (k__law_shared : PySem.W.keepIn K (.ref f__law_shared) = true)
    (a__law_number : PySem.W.nsIn K mainGlobals "_law_number" = some (some (.ref f__law_number)))
    (l__law_number : K.lookup f__law_number = some ⟨oc__law_number, od__law_number, .func (PySem.W.fnOf "_law_number" "_law_number" (defArgs s__law_number) (defBody s__law_number) (defScope s__law_number) .none kV__law_number dc__law_number pm__law_number an__law_number cd__law_number ct__law_number), sl__law_number⟩)
    (o__law_number : PySem.W.codeIn K cd__law_number "_law_number" = true)
    (k__law_number : PySem.W.keepIn K (.ref f__law_number) = true)
    (a__law_text : PySem.W.nsIn K mainGlobals "_law_text" = some (some (.ref f__law_text)))
    (l__law_text : K.lookup f__law_text = some ⟨oc__law_text, od__law_text, .func (PySem.W.fnOf "_law_text" "_law_text" (defArgs s__law_text) (defBody s__law_text) (defScope s__law_text) .none kV__law_text dc__law_text pm__law_text an__law_text cd__law_text ct__law_text), sl__law_text⟩)
    (o__law_text : PySem.W.codeIn K cd__law_text "_law_text" = true)
    (k__law_text : PySem.W.keepIn K (.ref f__law_text) = true)
    (a__law_changed : PySem.W.nsIn K mainGlobals "_law_changed" = some (some (.ref f__law_changed)))
    (l__law_changed : K.lookup f__law_changed = some ⟨oc__law_changed, od__law_changed, .func (PySem.W.fnOf "_law_changed" "_law_changed" (defArgs s__law_changed) (defBody s__law_changed) (defScope s__law_changed) .none kV__law_changed dc__law_changed pm__law_changed an__law_changed cd__law_changed ct__law_changed), sl__law_changed⟩)
    (o__law_changed : PySem.W.codeIn K cd__law_changed "_law_changed" = true)
    (k__law_changed : PySem.W.keepIn K (.ref f__law_changed) = true)
    (a__law_odd : PySem.W.nsIn K mainGlobals "_law_odd" = some (some (.ref f__law_odd)))
    (l__law_odd : K.lookup f__law_odd = some ⟨oc__law_odd, od__law_odd, .func (PySem.W.fnOf "_law_odd" "_law_odd" (defArgs s__law_odd) (defBody s__law_odd) (defScope s__law_odd) .none kV__law_odd dc__law_odd pm__law_odd an__law_odd cd__law_odd ct__law_odd), sl__law_odd⟩)
    (o__law_odd : PySem.W.codeIn K cd__law_odd "_law_odd" = true)
    (k__law_odd : PySem.W.keepIn K (.ref f__law_odd) = true)
    (a_exact : PySem.W.nsIn K mainGlobals "exact" = some (some (.ref f_exact)))
    (l_exact : K.lookup f_exact = some ⟨oc_exact, od_exact, .func (PySem.W.fnOf "exact" "exact" (defArgs s_exact) (defBody s_exact) (defScope s_exact) (.ref dt_exact) kV_exact dc_exact pm_exact an_exact cd_exact ct_exact), sl_exact⟩)
    (o_exact : PySem.W.codeIn K cd_exact "exact" = true)
    (k_exact : PySem.W.keepIn K (.ref f_exact) = true)
    (d_exact : K.lookup dt_exact = some ⟨do_exact, dd_exact, .seq #[.int 1 dk_exact] dn_exact, ds_exact⟩)
    (a_is_digits : PySem.W.nsIn K mainGlobals "is_digits" = some (some (.ref f_is_digits)))
    (l_is_digits : K.lookup f_is_digits = some ⟨oc_is_digits, od_is_digits, .func (PySem.W.fnOf "is_digits" "is_digits" (defArgs s_is_digits) (defBody s_is_digits) (defScope s_is_digits) .none kV_is_digits dc_is_digits pm_is_digits an_is_digits cd_is_digits ct_is_digits), sl_is_digits⟩)
    (o_is_digits : PySem.W.codeIn K cd_is_digits "is_digits" = true)
    (k_is_digits : PySem.W.keepIn K (.ref f_is_digits) = true)
    (a_read_exact : PySem.W.nsIn K mainGlobals "read_exact" = some (some (.ref f_read_exact)))
    (l_read_exact : K.lookup f_read_exact = some ⟨oc_read_exact, od_read_exact, .func (PySem.W.fnOf "read_exact" "read_exact" (defArgs s_read_exact) (defBody s_read_exact) (defScope s_read_exact) .none kV_read_exact dc_read_exact pm_read_exact an_read_exact cd_read_exact ct_read_exact), sl_read_exact⟩)
    (o_read_exact : PySem.W.codeIn K cd_read_exact "read_exact" = true)
    (k_read_exact : PySem.W.keepIn K (.ref f_read_exact) = true)
    (a__law_is_integer : PySem.W.nsIn K mainGlobals "_law_is_integer" = some (some (.ref f__law_is_integer)))
    (l__law_is_integer : K.lookup f__law_is_integer = some ⟨oc__law_is_integer, od__law_is_integer, .func (PySem.W.fnOf "_law_is_integer" "_law_is_integer" (defArgs s__law_is_integer) (defBody s__law_is_integer) (defScope s__law_is_integer) .none kV__law_is_integer dc__law_is_integer pm__law_is_integer an__law_is_integer cd__law_is_integer ct__law_is_integer), sl__law_is_integer⟩)
    (o__law_is_integer : PySem.W.codeIn K cd__law_is_integer "_law_is_integer" = true)
    (k__law_is_integer : PySem.W.keepIn K (.ref f__law_is_integer) = true)
    (a__law_digits : PySem.W.nsIn K mainGlobals "_law_digits" = some (some (.ref f__law_digits)))
    (l__law_digits : K.lookup f__law_digits = some ⟨oc__law_digits, od__law_digits, .func (PySem.W.fnOf "_law_digits" "_law_digits" (defArgs s__law_digits) (defBody s__law_digits) (defScope s__law_digits) .none kV__law_digits dc__law_digits pm__law_digits an__law_digits cd__law_digits ct__law_digits), sl__law_digits⟩)
    (o__law_digits : PySem.W.codeIn K cd__law_digits "_law_digits" = true)
    (k__law_digits : PySem.W.keepIn K (.ref f__law_digits) = true)
    (a__law_read : PySem.W.nsIn K mainGlobals "_law_read" = some (some (.ref f__law_read)))
    (l__law_read : K.lookup f__law_read = some ⟨oc__law_read, od__law_read, .func (PySem.W.fnOf "_law_read" "_law_read" (defArgs s__law_read) (defBody s__law_read) (defScope s__law_read) .none kV__law_read dc__law_read pm__law_read an__law_read cd__law_read ct__law_read), sl__law_read⟩)
    (o__law_read : PySem.W.codeIn K cd__law_read "_law_read" = true)
    (k__law_read : PySem.W.keepIn K (.ref f__law_read) = true)
    (a__law_asked : PySem.W.nsIn K mainGlobals "_law_asked" = some (some (.ref f__law_asked)))
    (l__law_asked : K.lookup f__law_asked = some ⟨oc__law_asked, od__law_asked, .func (PySem.W.fnOf "_law_asked" "_law_asked" (defArgs s__law_asked) (defBody s__law_asked) (defScope s__law_asked) .none kV__law_asked dc__law_asked pm__law_asked an__law_asked cd__law_asked ct__law_asked), sl__law_asked⟩)
    (o__law_asked : PySem.W.codeIn K cd__law_asked "_law_asked" = true)
    (k__law_asked : PySem.W.keepIn K (.ref f__law_asked) = true)
    (a__law_long : PySem.W.nsIn K mainGlobals "_law_long" = some (some (.ref f__law_long)))
    (l__law_long : K.lookup f__law_long = some ⟨oc__law_long, od__law_long, .func (PySem.W.fnOf "_law_long" "_law_long" (defArgs s__law_long) (defBody s__law_long) (defScope s__law_long) .none kV__law_long dc__law_long pm__law_long an__law_long cd__law_long ct__law_long), sl__law_long⟩)
    (o__law_long : PySem.W.codeIn K cd__law_long "_law_long" = true)
    (k__law_long : PySem.W.keepIn K (.ref f__law_long) = true)
    (a_law : PySem.W.nsIn K mainGlobals "law" = some (some (.ref f_law)))
    (l_law : K.lookup f_law = some ⟨oc_law, od_law, .func (PySem.W.fnOf "law" "law" (defArgs s_law) (defBody s_law) (defScope s_law) .none kV_law dc_law pm_law an_law cd_law ct_law), sl_law⟩)
    (o_law : PySem.W.codeIn K cd_law "law" = true)
    (k_law : PySem.W.keepIn K (.ref f_law) = true)
    (hmain : ∀ (base : Heap) (cs : Cs), Tx PySem.Challenge.pw_bidehall_k01_exact_texts w K mg base cs → ∀ ns : List Int, ns.length ≤ 63 → (∀ z ∈ ns, Builtin.Int.intBits z ≤ 1048576) → runD 7 (b_law K cs) [.fls (ns.map .int)] = .ok (.bl true)) :
    ∃ fd : FuncData, (∀ (s : Shared) (v : Value), BindsTo s fd ⟨[v], []⟩ [("_law_script", v)]) ∧ ∀ base : Heap, K.In base → base.Ns mainGlobals mg → FnOk PySem.Challenge.pw_bidehall_k01_exact_texts w K mg base (L2.CX PySem.Challenge.pw_bidehall_k01_exact_texts w) 6 fa fd ["_law_script"] (spLaw K) := by
  have e := hfa.symm.trans (PySem.W.mg_of X G a_law)
  cases e
  have X_ZeroDenominator : PySem.FX.XTxt PySem.Challenge.pw_bidehall_k01_exact_texts K mg c_ZeroDenominator fi_ZeroDenominator cc_ZeroDenominator cda_ZeroDenominator "ZeroDenominator.__init__" (defArgs s_ZeroDenominator) (defBody s_ZeroDenominator) (defScope s_ZeroDenominator) :=
    { cls := ⟨_, _, _, _, [.ref c_Refused, .ref c_HouseError, .type "ValueError", .type "Exception", .type "BaseException", .type "object"], _, _, _, _, _, _, _, _, _, _, xl_ZeroDenominator, by rfl⟩, sa := sa_ZeroDenominator, iC := ic_ZeroDenominator, tI := ti_ZeroDenominator, kC := kc_ZeroDenominator, exC := ex_ZeroDenominator, exVE := ev_ZeroDenominator, tyC := ty_ZeroDenominator, sub := su_ZeroDenominator, supI := si_ZeroDenominator, any := any, mgS := PySem.W.mg_none_of X G zsup, cell := ⟨_, _, _, ce_ZeroDenominator⟩, code := ⟨_, _, _, _, _, _, co_ZeroDenominator, cs_ZeroDenominator, cf_ZeroDenominator⟩,
      top := by decide +kernel, fn := ⟨_, _, _, _, _, _, _, _, lf_ZeroDenominator, cd_ZeroDenominator⟩ }
  have M_ZeroDenominator : ∀ base, PySem.FX.XMk PySem.Challenge.pw_bidehall_k01_exact_texts w K mg base c_ZeroDenominator fn_ZeroDenominator ok_ZeroDenominator := fun base =>
    PySem.FX.mk0 X_ZeroDenominator rfl rfl (fun s x kV doc pm an ct => .of_eq rfl) (by decide +kernel) rfl rfl rfl rfl rfl rfl (fun L => ⟨rfl, rfl, ⟨_, rfl⟩⟩) (fun L x => PySem.FX.msg_const)
  have X_BadExact : PySem.FX.XTxt PySem.Challenge.pw_bidehall_k01_exact_texts K mg c_BadExact fi_BadExact cc_BadExact cda_BadExact "BadExact.__init__" (defArgs s_BadExact) (defBody s_BadExact) (defScope s_BadExact) :=
    { cls := ⟨_, _, _, _, [.ref c_Refused, .ref c_HouseError, .type "ValueError", .type "Exception", .type "BaseException", .type "object"], _, _, _, _, _, _, _, _, _, _, xl_BadExact, by rfl⟩, sa := sa_BadExact, iC := ic_BadExact, tI := ti_BadExact, kC := kc_BadExact, exC := ex_BadExact, exVE := ev_BadExact, tyC := ty_BadExact, sub := su_BadExact, supI := si_BadExact, any := any, mgS := PySem.W.mg_none_of X G zsup, cell := ⟨_, _, _, ce_BadExact⟩, code := ⟨_, _, _, _, _, _, co_BadExact, cs_BadExact, cf_BadExact⟩,
      top := by decide +kernel, fn := ⟨_, _, _, _, _, _, _, _, lf_BadExact, cd_BadExact⟩ }
  have M_BadExact : ∀ base, PySem.FX.XMk PySem.Challenge.pw_bidehall_k01_exact_texts w K mg base c_BadExact fn_BadExact ok_BadExact := fun base =>
    PySem.FX.mk1 X_BadExact no_BadExact_text rfl rfl (fun s x v kV doc pm an ct => .of_eq rfl) (by decide +kernel) rfl rfl rfl rfl rfl (by decide) (by decide) rfl rfl (fun L => ⟨rfl, rfl, ⟨_, rfl⟩⟩) (fun L x v u rv hv => by
      obtain ⟨z, rfl, hz⟩ := hv
      obtain ⟨t, rfl⟩ := rv
      exact (PySem.FX.msg_join (PySem.FX.mps_cons (PySem.FX.mp_repr (x := "text") rfl rfl (by rfl) hz) (PySem.FX.mps_cons (PySem.FX.mp_const 35) PySem.FX.mps_nil)) (by decide)))
  have TT : ∀ base, Tx PySem.Challenge.pw_bidehall_k01_exact_texts w K mg base ⟨c_ZeroDenominator, c_BadExact, c_HouseError, c_Refused, c_NoAnswer, c_Unfit⟩ := fun base =>
    { n_ValueError := PySem.W.mg_none_of X G z_ValueError,
      n_abs := PySem.W.mg_none_of X G z_abs,
      n_bool := PySem.W.mg_none_of X G z_bool,
      n_divmod := PySem.W.mg_none_of X G z_divmod,
      n_int := PySem.W.mg_none_of X G z_int,
      n_isinstance := PySem.W.mg_none_of X G z_isinstance,
      n_len := PySem.W.mg_none_of X G z_len,
      n_range := PySem.W.mg_none_of X G z_range,
      n_str := PySem.W.mg_none_of X G z_str,
      n_tuple := PySem.W.mg_none_of X G z_tuple,
      n_gcd := PySem.W.mg_of X G z_gcd,
      v_PIECE := ⟨_, PySem.W.mg_of X G kv_PIECE, ⟨_, rfl⟩⟩,
      v_PIECE_DIGITS := ⟨_, PySem.W.mg_of X G kv_PIECE_DIGITS, ⟨_, rfl⟩⟩,
      v_MOST_DIGITS := ⟨_, PySem.W.mg_of X G kv_MOST_DIGITS, ⟨_, rfl⟩⟩,
      g_ZeroDenominator := PySem.W.mg_of X G a_ZeroDenominator,
      g_BadExact := PySem.W.mg_of X G a_BadExact,
      g_HouseError := PySem.W.mg_of X G a_HouseError,
      g_Refused := PySem.W.mg_of X G a_Refused,
      g_NoAnswer := PySem.W.mg_of X G a_NoAnswer,
      g_Unfit := PySem.W.mg_of X G a_Unfit,
      m_ZeroDenominator := M_ZeroDenominator base,
      k_ZeroDenominator := kc_ZeroDenominator,
      e_ZeroDenominator := ex_ZeroDenominator,
      t_ZeroDenominator := ty_ZeroDenominator,
      x_ZeroDenominator_BadExact := exm_of cb_BadExact ci_BadExact ct_BadExact sb_ZeroDenominator_BadExact,
      i_ZeroDenominator_ZeroDenominator := kit_self,
      i_ZeroDenominator_Unfit := kit_ne ne_ZeroDenominator_Unfit ci_Unfit ct_Unfit sb_ZeroDenominator_Unfit,
      i_ZeroDenominator_NoAnswer := kit_ne ne_ZeroDenominator_NoAnswer ci_NoAnswer ct_NoAnswer sb_ZeroDenominator_NoAnswer,
      i_ZeroDenominator_Refused := kit_ne ne_ZeroDenominator_Refused ci_Refused ct_Refused sb_ZeroDenominator_Refused,
      i_ZeroDenominator_HouseError := kit_ne ne_ZeroDenominator_HouseError ci_HouseError ct_HouseError sb_ZeroDenominator_HouseError,
      i_ZeroDenominator_ValueError := kit_typ (by decide +kernel) sb_ZeroDenominator_ValueError,
      m_BadExact := M_BadExact base,
      k_BadExact := kc_BadExact,
      e_BadExact := ex_BadExact,
      t_BadExact := ty_BadExact,
      x_BadExact_BadExact := exm_of cb_BadExact ci_BadExact ct_BadExact sb_BadExact_BadExact,
      i_BadExact_ZeroDenominator := kit_ne ne_BadExact_ZeroDenominator ci_ZeroDenominator ct_ZeroDenominator sb_BadExact_ZeroDenominator,
      i_BadExact_Unfit := kit_ne ne_BadExact_Unfit ci_Unfit ct_Unfit sb_BadExact_Unfit,
      i_BadExact_NoAnswer := kit_ne ne_BadExact_NoAnswer ci_NoAnswer ct_NoAnswer sb_BadExact_NoAnswer,
      i_BadExact_Refused := kit_ne ne_BadExact_Refused ci_Refused ct_Refused sb_BadExact_Refused,
      i_BadExact_HouseError := kit_ne ne_BadExact_HouseError ci_HouseError ct_HouseError sb_BadExact_HouseError,
      i_BadExact_ValueError := kit_typ (by decide +kernel) sb_BadExact_ValueError,
      xf := fun C hC => by
          simp only [Cs.all, List.mem_cons, List.not_mem_nil, or_false] at hC
          rcases hC with rfl | rfl
          · exact ⟨hg_ZeroDenominator, hk_ZeroDenominator, ex_ZeroDenominator, hd_ZeroDenominator⟩
          · exact ⟨hg_BadExact, hk_BadExact, ex_BadExact, hd_BadExact⟩,
      xn_text := fun C hC => by
          simp only [Cs.all, List.mem_cons, List.not_mem_nil, or_false] at hC
          rcases hC with rfl | rfl
          · exact no_ZeroDenominator_text
          · exact no_BadExact_text,
      xc := fun C hC => by
          simp only [Cs.all, List.mem_cons, List.not_mem_nil, or_false] at hC
          rcases hC with rfl | rfl
          · exact ⟨hg_ZeroDenominator, hk_ZeroDenominator, ex_ZeroDenominator, hd_ZeroDenominator, ha_ZeroDenominator, hn, ht, ho_ZeroDenominator⟩
          · exact ⟨hg_BadExact, hk_BadExact, ex_BadExact, hd_BadExact, ha_BadExact, hn, ht, ho_BadExact⟩,
      F_integer_text := ⟨f_integer_text, _, ⟨⟨_, _, _, _, _, _, _, _, _, _, rfl, l_integer_text, o_integer_text, .inl ⟨rfl, rfl⟩, .inl rfl⟩, k_integer_text⟩, PySem.W.mg_of X G a_integer_text⟩,
      F_exact_text := ⟨f_exact_text, _, ⟨⟨_, _, _, _, _, _, _, _, _, _, rfl, l_exact_text, o_exact_text, .inl ⟨rfl, rfl⟩, .inl rfl⟩, k_exact_text⟩, PySem.W.mg_of X G a_exact_text⟩,
      F__law_cell := ⟨f__law_cell, _, ⟨⟨_, _, _, _, _, _, _, _, _, _, rfl, l__law_cell, o__law_cell, .inl ⟨rfl, rfl⟩, .inl rfl⟩, k__law_cell⟩, PySem.W.mg_of X G a__law_cell⟩,
      F__law_shared := ⟨f__law_shared, _, ⟨⟨_, _, _, _, _, _, _, _, _, _, rfl, l__law_shared, o__law_shared, .inl ⟨rfl, rfl⟩, .inl rfl⟩, k__law_shared⟩, PySem.W.mg_of X G a__law_shared⟩,
      F__law_number := ⟨f__law_number, _, ⟨⟨_, _, _, _, _, _, _, _, _, _, rfl, l__law_number, o__law_number, .inl ⟨rfl, rfl⟩, .inl rfl⟩, k__law_number⟩, PySem.W.mg_of X G a__law_number⟩,
      F__law_text := ⟨f__law_text, _, ⟨⟨_, _, _, _, _, _, _, _, _, _, rfl, l__law_text, o__law_text, .inl ⟨rfl, rfl⟩, .inl rfl⟩, k__law_text⟩, PySem.W.mg_of X G a__law_text⟩,
      F__law_changed := ⟨f__law_changed, _, ⟨⟨_, _, _, _, _, _, _, _, _, _, rfl, l__law_changed, o__law_changed, .inl ⟨rfl, rfl⟩, .inl rfl⟩, k__law_changed⟩, PySem.W.mg_of X G a__law_changed⟩,
      F__law_odd := ⟨f__law_odd, _, ⟨⟨_, _, _, _, _, _, _, _, _, _, rfl, l__law_odd, o__law_odd, .inl ⟨rfl, rfl⟩, .inl rfl⟩, k__law_odd⟩, PySem.W.mg_of X G a__law_odd⟩,
      F_exact := ⟨f_exact, _, ⟨⟨_, _, _, _, _, _, _, _, _, _, rfl, l_exact, o_exact, .inr ⟨by simp, dt_exact, _, [_], dn_exact, rfl, d_exact, rfl, .cons ⟨_, rfl⟩ .nil⟩, .inl rfl⟩, k_exact⟩, PySem.W.mg_of X G a_exact⟩,
      F_is_digits := ⟨f_is_digits, _, ⟨⟨_, _, _, _, _, _, _, _, _, _, rfl, l_is_digits, o_is_digits, .inl ⟨rfl, rfl⟩, .inl rfl⟩, k_is_digits⟩, PySem.W.mg_of X G a_is_digits⟩,
      F_read_exact := ⟨f_read_exact, _, ⟨⟨_, _, _, _, _, _, _, _, _, _, rfl, l_read_exact, o_read_exact, .inl ⟨rfl, rfl⟩, .inl rfl⟩, k_read_exact⟩, PySem.W.mg_of X G a_read_exact⟩,
      F__law_is_integer := ⟨f__law_is_integer, _, ⟨⟨_, _, _, _, _, _, _, _, _, _, rfl, l__law_is_integer, o__law_is_integer, .inl ⟨rfl, rfl⟩, .inl rfl⟩, k__law_is_integer⟩, PySem.W.mg_of X G a__law_is_integer⟩,
      F__law_digits := ⟨f__law_digits, _, ⟨⟨_, _, _, _, _, _, _, _, _, _, rfl, l__law_digits, o__law_digits, .inl ⟨rfl, rfl⟩, .inl rfl⟩, k__law_digits⟩, PySem.W.mg_of X G a__law_digits⟩,
      F__law_read := ⟨f__law_read, _, ⟨⟨_, _, _, _, _, _, _, _, _, _, rfl, l__law_read, o__law_read, .inl ⟨rfl, rfl⟩, .inl rfl⟩, k__law_read⟩, PySem.W.mg_of X G a__law_read⟩,
      F__law_asked := ⟨f__law_asked, _, ⟨⟨_, _, _, _, _, _, _, _, _, _, rfl, l__law_asked, o__law_asked, .inl ⟨rfl, rfl⟩, .inl rfl⟩, k__law_asked⟩, PySem.W.mg_of X G a__law_asked⟩,
      F__law_long := ⟨f__law_long, _, ⟨⟨_, _, _, _, _, _, _, _, _, _, rfl, l__law_long, o__law_long, .inl ⟨rfl, rfl⟩, .inl rfl⟩, k__law_long⟩, PySem.W.mg_of X G a__law_long⟩,
      F_law := ⟨fa, _, ⟨⟨_, _, _, _, _, _, _, _, _, _, rfl, l_law, o_law, .inl ⟨rfl, rfl⟩, .inl rfl⟩, k_law⟩, PySem.W.mg_of X G a_law⟩ }
  exact ⟨PySem.W.fnOf "law" "law" (defArgs s_law) (defBody s_law) (defScope s_law) .none kV_law dc_law pm_law an_law cd_law ct_law, fun s v => .of_eq rfl, fun base _ _ =>
    law_imp (ok_law (TT base) ⟨⟨_, _, _, _, _, _, _, _, _, _, rfl, l_law, o_law, .inl ⟨rfl, rfl⟩, .inl rfl⟩, k_law⟩) (hmain base ⟨c_ZeroDenominator, c_BadExact, c_HouseError, c_Refused, c_NoAnswer, c_Unfit⟩ (TT base))⟩
end Lk01

open PySem PySem.W PyProof.Rows in
set_option maxRecDepth 100000 in
set_option maxHeartbeats 0 in
theorem PySem.Challenge.cw_bidehall_k01_exact_texts_holds : PySem.Challenge.rw_bidehall_k01_exact_texts.Holds := by
  w_on; o_law; k_head; (case hw => w_witness2)
  k_fill
  refine FD.walk_law (l := PySem.Challenge.rw_bidehall_k01_exact_texts) (k := 6) (x := "_law_script") rfl rfl ⟨rfl, by decide, by decide⟩ (fun w h Y => PySem.W.kIn_of Y) ?F
  case F =>
    intro w mg fa h KX G hmg
    refine' Lk01.all_mk KX G hmg ?z_ValueError ?z_abs ?z_bool ?z_divmod ?z_int ?z_isinstance ?z_len ?z_range ?z_str ?z_tuple ?z_gcd ?kv_PIECE ?kv_PIECE_DIGITS ?kv_MOST_DIGITS ?a_ZeroDenominator ?a_BadExact ?a_HouseError ?a_Refused ?a_NoAnswer ?a_Unfit ?xl_ZeroDenominator ?sa_ZeroDenominator ?ic_ZeroDenominator ?ti_ZeroDenominator ?kc_ZeroDenominator ?ex_ZeroDenominator ?ev_ZeroDenominator ?ty_ZeroDenominator ?su_ZeroDenominator ?si_ZeroDenominator ?lf_ZeroDenominator ?cd_ZeroDenominator ?ce_ZeroDenominator ?co_ZeroDenominator ?cs_ZeroDenominator ?cf_ZeroDenominator ?no_ZeroDenominator_text ?hg_ZeroDenominator ?hk_ZeroDenominator ?hd_ZeroDenominator ?ha_ZeroDenominator ?ho_ZeroDenominator ?sb_ZeroDenominator_BadExact ?sb_ZeroDenominator_ZeroDenominator ?sb_ZeroDenominator_Unfit ?ne_ZeroDenominator_Unfit ?sb_ZeroDenominator_NoAnswer ?ne_ZeroDenominator_NoAnswer ?sb_ZeroDenominator_Refused ?ne_ZeroDenominator_Refused ?sb_ZeroDenominator_HouseError ?ne_ZeroDenominator_HouseError ?sb_ZeroDenominator_ValueError ?xl_BadExact ?sa_BadExact ?ic_BadExact ?ti_BadExact ?kc_BadExact ?ex_BadExact ?ev_BadExact ?ty_BadExact ?su_BadExact ?si_BadExact ?lf_BadExact ?cd_BadExact ?ce_BadExact ?co_BadExact ?cs_BadExact ?cf_BadExact ?no_BadExact_text ?hg_BadExact ?hk_BadExact ?hd_BadExact ?ha_BadExact ?ho_BadExact ?sb_BadExact_BadExact ?sb_BadExact_ZeroDenominator ?ne_BadExact_ZeroDenominator ?sb_BadExact_Unfit ?ne_BadExact_Unfit ?sb_BadExact_NoAnswer ?ne_BadExact_NoAnswer ?sb_BadExact_Refused ?ne_BadExact_Refused ?sb_BadExact_HouseError ?ne_BadExact_HouseError ?sb_BadExact_ValueError ?ci_BadExact ?ct_BadExact ?cb_BadExact ?ci_ZeroDenominator ?ct_ZeroDenominator ?cb_ZeroDenominator ?ci_Unfit ?ct_Unfit ?cb_Unfit ?ci_NoAnswer ?ct_NoAnswer ?cb_NoAnswer ?ci_Refused ?ct_Refused ?cb_Refused ?ci_HouseError ?ct_HouseError ?cb_HouseError ?any ?zsup ?hn ?ht ?a_integer_text ?l_integer_text ?o_integer_text ?k_integer_text ?a_exact_text ?l_exact_text ?o_exact_text ?k_exact_text ?a__law_cell ?l__law_cell ?o__law_cell ?k__law_cell ?a__law_shared ?l__law_shared ?o__law_shared ?k__law_shared ?a__law_number ?l__law_number ?o__law_number ?k__law_number ?a__law_text ?l__law_text ?o__law_text ?k__law_text ?a__law_changed ?l__law_changed ?o__law_changed ?k__law_changed ?a__law_odd ?l__law_odd ?o__law_odd ?k__law_odd ?a_exact ?l_exact ?o_exact ?k_exact ?d_exact ?a_is_digits ?l_is_digits ?o_is_digits ?k_is_digits ?a_read_exact ?l_read_exact ?o_read_exact ?k_read_exact ?a__law_is_integer ?l__law_is_integer ?o__law_is_integer ?k__law_is_integer ?a__law_digits ?l__law_digits ?o__law_digits ?k__law_digits ?a__law_read ?l__law_read ?o__law_read ?k__law_read ?a__law_asked ?l__law_asked ?o__law_asked ?k__law_asked ?a__law_long ?l__law_long ?o__law_long ?k__law_long ?a_law ?l_law ?o_law ?k_law (fun base cs T ns hl hb => Lk01.plain T ns hl hb)
    (case z_ValueError => k_is)
    (case z_abs => k_is)
    (case z_bool => k_is)
    (case z_divmod => k_is)
    (case z_int => k_is)
    (case z_isinstance => k_is)
    (case z_len => k_is)
    (case z_range => k_is)
    (case z_str => k_is)
    (case z_tuple => k_is)
    (case z_gcd => k_is)
    (case kv_PIECE => k_is)
    (case kv_PIECE_DIGITS => k_is)
    (case kv_MOST_DIGITS => k_is)
    (case a_ZeroDenominator => k_is)
    (case a_BadExact => k_is)
    (case a_HouseError => k_is)
    (case a_Refused => k_is)
    (case a_NoAnswer => k_is)
    (case a_Unfit => k_is)
    (case xl_ZeroDenominator => k_is)
    (case sa_ZeroDenominator => k_is)
    (case ic_ZeroDenominator => k_is)
    (case ti_ZeroDenominator => k_is)
    (case kc_ZeroDenominator => k_is)
    (case ex_ZeroDenominator => k_is)
    (case ev_ZeroDenominator => k_is)
    (case ty_ZeroDenominator => k_is)
    (case su_ZeroDenominator => k_is)
    (case si_ZeroDenominator => ks_is)
    (case lf_ZeroDenominator => k_is)
    (case cd_ZeroDenominator => k_is)
    (case ce_ZeroDenominator => k_is)
    (case co_ZeroDenominator => k_is)
    (case cs_ZeroDenominator => rfl)
    (case cf_ZeroDenominator => first | rfl | decide +kernel)
    (case no_ZeroDenominator_text => k_is)
    (case hg_ZeroDenominator => k_is)
    (case hk_ZeroDenominator => k_is)
    (case hd_ZeroDenominator => k_is)
    (case ha_ZeroDenominator => k_is)
    (case ho_ZeroDenominator => k_is)
    (case sb_ZeroDenominator_BadExact => k_is)
    (case sb_ZeroDenominator_ZeroDenominator => k_is)
    (case sb_ZeroDenominator_Unfit => k_is)
    (case ne_ZeroDenominator_Unfit => first | rfl | decide +kernel)
    (case sb_ZeroDenominator_NoAnswer => k_is)
    (case ne_ZeroDenominator_NoAnswer => first | rfl | decide +kernel)
    (case sb_ZeroDenominator_Refused => k_is)
    (case ne_ZeroDenominator_Refused => first | rfl | decide +kernel)
    (case sb_ZeroDenominator_HouseError => k_is)
    (case ne_ZeroDenominator_HouseError => first | rfl | decide +kernel)
    (case sb_ZeroDenominator_ValueError => k_is)
    (case xl_BadExact => k_is)
    (case sa_BadExact => k_is)
    (case ic_BadExact => k_is)
    (case ti_BadExact => k_is)
    (case kc_BadExact => k_is)
    (case ex_BadExact => k_is)
    (case ev_BadExact => k_is)
    (case ty_BadExact => k_is)
    (case su_BadExact => k_is)
    (case si_BadExact => ks_is)
    (case lf_BadExact => k_is)
    (case cd_BadExact => k_is)
    (case ce_BadExact => k_is)
    (case co_BadExact => k_is)
    (case cs_BadExact => rfl)
    (case cf_BadExact => first | rfl | decide +kernel)
    (case no_BadExact_text => k_is)
    (case hg_BadExact => k_is)
    (case hk_BadExact => k_is)
    (case hd_BadExact => k_is)
    (case ha_BadExact => k_is)
    (case ho_BadExact => k_is)
    (case sb_BadExact_BadExact => k_is)
    (case sb_BadExact_ZeroDenominator => k_is)
    (case ne_BadExact_ZeroDenominator => first | rfl | decide +kernel)
    (case sb_BadExact_Unfit => k_is)
    (case ne_BadExact_Unfit => first | rfl | decide +kernel)
    (case sb_BadExact_NoAnswer => k_is)
    (case ne_BadExact_NoAnswer => first | rfl | decide +kernel)
    (case sb_BadExact_Refused => k_is)
    (case ne_BadExact_Refused => first | rfl | decide +kernel)
    (case sb_BadExact_HouseError => k_is)
    (case ne_BadExact_HouseError => first | rfl | decide +kernel)
    (case sb_BadExact_ValueError => k_is)
    (case ci_BadExact => k_is)
    (case ct_BadExact => k_is)
    (case cb_BadExact => k_is)
    (case ci_ZeroDenominator => k_is)
    (case ct_ZeroDenominator => k_is)
    (case cb_ZeroDenominator => k_is)
    (case ci_Unfit => k_is)
    (case ct_Unfit => k_is)
    (case cb_Unfit => k_is)
    (case ci_NoAnswer => k_is)
    (case ct_NoAnswer => k_is)
    (case cb_NoAnswer => k_is)
    (case ci_Refused => k_is)
    (case ct_Refused => k_is)
    (case cb_Refused => k_is)
    (case ci_HouseError => k_is)
    (case ct_HouseError => k_is)
    (case cb_HouseError => k_is)
    (case any => k_is)
    (case zsup => k_is)
    (case hn => k_is)
    (case ht => k_is)
    (case a_integer_text => k_is)
    (case l_integer_text => k_is)
    (case o_integer_text => k_is)
    (case k_integer_text => k_is)
    (case a_exact_text => k_is)
    (case l_exact_text => k_is)
    (case o_exact_text => k_is)
    (case k_exact_text => k_is)
    (case a__law_cell => k_is)
    (case l__law_cell => k_is)
    (case o__law_cell => k_is)
    (case k__law_cell => k_is)
    (case a__law_shared => k_is)
    (case l__law_shared => k_is)
    (case o__law_shared => k_is)
    (case k__law_shared => k_is)
    (case a__law_number => k_is)
    (case l__law_number => k_is)
    (case o__law_number => k_is)
    (case k__law_number => k_is)
    (case a__law_text => k_is)
    (case l__law_text => k_is)
    (case o__law_text => k_is)
    (case k__law_text => k_is)
    (case a__law_changed => k_is)
    (case l__law_changed => k_is)
    (case o__law_changed => k_is)
    (case k__law_changed => k_is)
    (case a__law_odd => k_is)
    (case l__law_odd => k_is)
    (case o__law_odd => k_is)
    (case k__law_odd => k_is)
    (case a_exact => k_is)
    (case l_exact => k_is)
    (case o_exact => k_is)
    (case k_exact => k_is)
    (case d_exact => k_is)
    (case a_is_digits => k_is)
    (case l_is_digits => k_is)
    (case o_is_digits => k_is)
    (case k_is_digits => k_is)
    (case a_read_exact => k_is)
    (case l_read_exact => k_is)
    (case o_read_exact => k_is)
    (case k_read_exact => k_is)
    (case a__law_is_integer => k_is)
    (case l__law_is_integer => k_is)
    (case o__law_is_integer => k_is)
    (case k__law_is_integer => k_is)
    (case a__law_digits => k_is)
    (case l__law_digits => k_is)
    (case o__law_digits => k_is)
    (case k__law_digits => k_is)
    (case a__law_read => k_is)
    (case l__law_read => k_is)
    (case o__law_read => k_is)
    (case k__law_read => k_is)
    (case a__law_asked => k_is)
    (case l__law_asked => k_is)
    (case o__law_asked => k_is)
    (case k__law_asked => k_is)
    (case a__law_long => k_is)
    (case l__law_long => k_is)
    (case o__law_long => k_is)
    (case k__law_long => k_is)
    (case a_law => k_is)
    (case l_law => k_is)
    (case o_law => k_is)
    (case k_law => k_is)
#print axioms PySem.Challenge.cw_bidehall_k01_exact_texts_holds

