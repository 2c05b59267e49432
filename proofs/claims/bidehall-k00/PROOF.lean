import PyProof.Rows.All
import Wide.All
import OpenK.AllK
import Wide.FinOn
import HandS.ForMost
import HandS.ForExc
import HandS.CallSlots
import HandS.IsInst
import HandS.Wide
import HandS.Gcd
import HandS.Star
import HandS.Defaults
import KE.KExcSuper
import KE.KSuper
import PyProof.FString
import PyProof.FString4
import HandS.ExcSuper
import HandS.ExcIs
import HandS.TryOnly
import HandS.ExcField
import KE.KExcIs
import HandS.EndBits
import KE.RegKSuper
import PySem.Challenge.RW_bidehall_k00_exact_numbers
set_option Elab.async false
set_option linter.all false
set_option maxRecDepth 100000
set_option maxHeartbeats 8000000
/-! A functional layer over HandS: what an expression gives, as data, and how data lies in the heap. -/
namespace FD
open PySem L2

/-! ### data -/
inductive Dt where
  | non | bl (b : Bool) | int (i : Int) | str (s : Str) | ty (n : String) | cls (a : Addr)
  | tup (ds : List Dt) | lst (ds : List Dt) | fls (ds : List Dt)
  | dic (ks : List Key) (ds : List Dt)
  | obj (C : Addr) (ns : List Str) (ds : List Dt)
  | exn (a : Addr) (od : Option Addr) (C : Addr) (ns : List Str) (ds : List Dt)
def Dt.scal : Dt → Bool
  | .non => true | .bl _ => true | .int _ => true | .str _ => true | .ty _ => true | .cls _ => true
  | _ => false
mutual
/-- data that no list, dict or instance stands in -/
def Dt.pure : Dt → Bool
  | .non => true | .bl _ => true | .int _ => true | .str _ => true | .ty _ => true | .cls _ => true
  | .tup ds => Dt.pures ds
  | _ => false
def Dt.pures : List Dt → Bool
  | [] => true
  | d :: ds => d.pure && Dt.pures ds
end
structure Exn where
  cls : Addr
  fs : List (Str × Dt)
inductive Out (α : Type) where
  | ok (a : α) | exc (x : Exn) | bad
def Out.bind {α β : Type} (o : Out α) (f : α → Out β) : Out β := match o with
  | .ok a => f a
  | .exc x => .exc x
  | .bad => .bad
@[simp] theorem Out.bind_ok {α β : Type} (a : α) (f : α → Out β) : (Out.ok a).bind f = f a := rfl
@[simp] theorem Out.bind_exc {α β : Type} (x : Exn) (f : α → Out β) : (Out.exc x : Out α).bind f = .exc x := rfl
@[simp] theorem Out.bind_bad {α β : Type} (f : α → Out β) : (Out.bad : Out α).bind f = .bad := rfl
theorem Out.bind_assoc {α β γ : Type} (o : Out α) (f : α → Out β) (g : β → Out γ) : (o.bind f).bind g = o.bind fun a => (f a).bind g := by
  cases o <;> rfl
theorem Out.bind_eq_ok {α β : Type} {o : Out α} {f : α → Out β} {b : β} (h : o.bind f = .ok b) : ∃ a, o = .ok a ∧ f a = .ok b := by
  cases o with
  | ok a => exact ⟨a, rfl, h⟩
  | exc x => cases h
  | bad => cases h

abbrev Ad := Addr → Prop
def KTup (K : PySem.W.Frag) (a : Addr) (xs : List V) : Prop := ∃ (o : Obj) (its : Array Value) (n : Nat), K.lookup a = some o ∧ o.cls = .type "tuple" ∧ o.data = .seq its n ∧ its.size ≤ sizeLine ∧ Vals xs its.toList
def KLst (K : PySem.W.Frag) (a : Addr) (xs : List V) : Prop := ∃ (o : Obj) (its : Array Value) (n : Nat), K.lookup a = some o ∧ o.cls = .type "list" ∧ o.dict = none ∧ o.data = .seq its n ∧ its.size ≤ sizeLine ∧ Vals xs its.toList
mutual
def Rep (K : PySem.W.Frag) (H : Hp) (A : Ad) : Dt → V → Prop
  | .non, v => v = .non
  | .bl b, v => v = .bl b
  | .int i, v => v = .int i
  | .str s, v => v = .str s
  | .ty n, v => v = .ty n
  | .cls a, v => v = .ref a
  | .tup ds, v => ∃ a vs, v = .ref a ∧ ((¬ A a ∧ H a = some (.tup vs)) ∨ KTup K a vs) ∧ Reps K H A ds vs
  | .lst ds, v => ∃ a vs, v = .ref a ∧ ¬ A a ∧ H a = some (.lst vs) ∧ Reps K H A ds vs
  | .fls ds, v => ∃ a vs, v = .ref a ∧ ((¬ A a ∧ ∃ o, H a = some (.frz o (.lst vs))) ∨ KLst K a vs) ∧ Reps K H A ds vs
  | .dic ks ds, v => ∃ a kvs, v = .ref a ∧ ¬ A a ∧ H a = some (.dK kvs) ∧ kvs.map (·.1) = ks ∧ Reps K H A ds (kvs.map (·.2))
  | .obj C ns ds, v => ∃ a dx fs, v = .ref a ∧ ¬ A a ∧ H a = some (.ins C dx fs) ∧ fs.map (·.1) = ns ∧ Reps K H A ds (fs.map (·.2))
  | .exn a od _ ns ds, v => ∃ fs : List (Str × V), v = .ref a ∧ ((od = none ∧ fs = []) ∨ ∃ d, od = some d ∧ ¬ A d ∧ H d = some (.xd fs)) ∧ fs.map (·.1) = ns ∧ Reps K H A ds (fs.map (·.2))
def Reps (K : PySem.W.Frag) (H : Hp) (A : Ad) : List Dt → List V → Prop
  | [], vs => vs = []
  | d :: ds, vs => ∃ v r, vs = v :: r ∧ Rep K H A d v ∧ Reps K H A ds r
end
section
variable {K : PySem.W.Frag} {H H' : Hp} {A A' : Ad}
mutual
theorem Rep.mono (hk : ∀ a o, ¬ A a → H a = some o → H' a = some o) (ha : ∀ a, A' a → A a) : ∀ (d : Dt) (v : V), Rep K H A d v → Rep K H' A' d v
  | .non, _, h => h
  | .bl _, _, h => h
  | .int _, _, h => h
  | .str _, _, h => h
  | .ty _, _, h => h
  | .cls _, _, h => h
  | .tup ds, _, h => by
    unfold Rep at h ⊢
    obtain ⟨a, vs, e, h1, h2⟩ := h
    exact ⟨a, vs, e, h1.imp (fun ⟨x, y⟩ => ⟨fun z => x (ha _ z), hk _ _ x y⟩) id, Reps.mono hk ha ds vs h2⟩
  | .lst ds, _, h => by
    unfold Rep at h ⊢
    obtain ⟨a, vs, e, x, y, h2⟩ := h
    exact ⟨a, vs, e, fun z => x (ha _ z), hk _ _ x y, Reps.mono hk ha ds vs h2⟩
  | .fls ds, _, h => by
    unfold Rep at h ⊢
    obtain ⟨a, vs, e, h1, h2⟩ := h
    exact ⟨a, vs, e, h1.imp (fun ⟨x, o, y⟩ => ⟨fun z => x (ha _ z), o, hk _ _ x y⟩) id, Reps.mono hk ha ds vs h2⟩
  | .dic ks ds, _, h => by
    unfold Rep at h ⊢
    obtain ⟨a, kvs, e, x, y, h1, h2⟩ := h
    exact ⟨a, kvs, e, fun z => x (ha _ z), hk _ _ x y, h1, Reps.mono hk ha ds _ h2⟩
  | .exn a od C ns ds, _, h => by
    unfold Rep at h ⊢
    obtain ⟨fs, e, h1, h2, h3⟩ := h
    exact ⟨fs, e, h1.imp id (fun ⟨d, e1, x, y⟩ => ⟨d, e1, fun z => x (ha _ z), hk _ _ x y⟩), h2, Reps.mono hk ha ds _ h3⟩
  | .obj C ns ds, _, h => by
    unfold Rep at h ⊢
    obtain ⟨a, dx, fs, e, x, y, h1, h2⟩ := h
    exact ⟨a, dx, fs, e, fun z => x (ha _ z), hk _ _ x y, h1, Reps.mono hk ha ds _ h2⟩
theorem Reps.mono (hk : ∀ a o, ¬ A a → H a = some o → H' a = some o) (ha : ∀ a, A' a → A a) : ∀ (ds : List Dt) (vs : List V), Reps K H A ds vs → Reps K H' A' ds vs
  | [], _, h => h
  | d :: ds, _, h => by
    unfold Reps at h ⊢
    obtain ⟨v, r, e, h1, h2⟩ := h
    exact ⟨v, r, e, Rep.mono hk ha d v h1, Reps.mono hk ha ds r h2⟩
end
theorem Rep.same (hs : Same H H') {d : Dt} {v : V} (h : Rep K H A d v) : Rep K H' A d v := Rep.mono (fun a o _ e => hs a o e) (fun _ z => z) d v h
theorem Reps.same (hs : Same H H') {d : List Dt} {v : List V} (h : Reps K H A d v) : Reps K H' A d v := Reps.mono (fun a o _ e => hs a o e) (fun _ z => z) d v h
theorem Rep.anti (ha : ∀ a, A' a → A a) {d : Dt} {v : V} (h : Rep K H A d v) : Rep K H A' d v := Rep.mono (fun a o _ e => e) ha d v h
theorem Reps.anti (ha : ∀ a, A' a → A a) {d : List Dt} {v : List V} (h : Reps K H A d v) : Reps K H A' d v := Reps.mono (fun a o _ e => e) ha d v h
theorem Rep.scal {d : Dt} {v : V} (s : d.scal = true) (h : Rep K H A d v) : Rep K H' A' d v := by
  cases d <;> first | exact h | (cases s)
mutual
theorem Rep.pure (hm : ∀ a, A' a → Mut (H a)) : ∀ (d : Dt) (v : V), d.pure = true → Rep K H A d v → Rep K H A' d v
  | .non, _, _, h => h
  | .bl _, _, _, h => h
  | .int _, _, _, h => h
  | .str _, _, _, h => h
  | .ty _, _, _, h => h
  | .cls _, _, _, h => h
  | .tup ds, _, p, h => by
    unfold Rep at h ⊢
    obtain ⟨a, vs, e, h1, h2⟩ := h
    exact ⟨a, vs, e, h1.imp (fun ⟨x, y⟩ => ⟨fun z => by have q := hm a z; rw [y] at q; exact q, y⟩) id, Reps.pure hm ds vs (by unfold Dt.pure at p; exact p) h2⟩
  | .lst ds, _, p, _ => by simp [Dt.pure] at p
  | .fls ds, _, p, _ => by simp [Dt.pure] at p
  | .dic ks ds, _, p, _ => by simp [Dt.pure] at p
  | .obj C ns ds, _, p, _ => by simp [Dt.pure] at p
  | .exn _ _ _ _ _, _, p, _ => by simp [Dt.pure] at p
theorem Reps.pure (hm : ∀ a, A' a → Mut (H a)) : ∀ (ds : List Dt) (vs : List V), Dt.pures ds = true → Reps K H A ds vs → Reps K H A' ds vs
  | [], _, _, h => h
  | d :: ds, _, p, h => by
    unfold Reps at h ⊢
    obtain ⟨v, r, e, h1, h2⟩ := h
    unfold Dt.pures at p
    rw [Bool.and_eq_true] at p
    exact ⟨v, r, e, Rep.pure hm d v p.1 h1, Reps.pure hm ds r p.2 h2⟩
end
mutual
/-- an address that nothing stands at is avoided -/
theorem Rep.fresh {p : Addr} (hp : H p = none) : ∀ (d : Dt) (v : V), Rep K H A d v → Rep K H (fun a => A a ∨ a = p) d v
  | .non, _, h => h
  | .bl _, _, h => h
  | .int _, _, h => h
  | .str _, _, h => h
  | .ty _, _, h => h
  | .cls _, _, h => h
  | .tup ds, _, h => by
    unfold Rep at h ⊢
    obtain ⟨a, vs, e, h1, h2⟩ := h
    exact ⟨a, vs, e, h1.imp (fun ⟨x, y⟩ => ⟨fun z => z.elim x (ne_of_none y hp), y⟩) id, Reps.fresh hp ds vs h2⟩
  | .lst ds, _, h => by
    unfold Rep at h ⊢
    obtain ⟨a, vs, e, x, y, h2⟩ := h
    exact ⟨a, vs, e, fun z => z.elim x (ne_of_none y hp), y, Reps.fresh hp ds vs h2⟩
  | .fls ds, _, h => by
    unfold Rep at h ⊢
    obtain ⟨a, vs, e, h1, h2⟩ := h
    exact ⟨a, vs, e, h1.imp (fun ⟨x, o, y⟩ => ⟨fun z => z.elim x (ne_of_none y hp), o, y⟩) id, Reps.fresh hp ds vs h2⟩
  | .dic ks ds, _, h => by
    unfold Rep at h ⊢
    obtain ⟨a, kvs, e, x, y, h1, h2⟩ := h
    exact ⟨a, kvs, e, fun z => z.elim x (ne_of_none y hp), y, h1, Reps.fresh hp ds _ h2⟩
  | .exn a od C ns ds, _, h => by
    unfold Rep at h ⊢
    obtain ⟨fs, e, h1, h2, h3⟩ := h
    exact ⟨fs, e, h1.imp id (fun ⟨d, e1, x, y⟩ => ⟨d, e1, fun z => z.elim x (ne_of_none y hp), y⟩), h2, Reps.fresh hp ds _ h3⟩
  | .obj C ns ds, _, h => by
    unfold Rep at h ⊢
    obtain ⟨a, dx, fs, e, x, y, h1, h2⟩ := h
    exact ⟨a, dx, fs, e, fun z => z.elim x (ne_of_none y hp), y, h1, Reps.fresh hp ds _ h2⟩
theorem Reps.fresh {p : Addr} (hp : H p = none) : ∀ (ds : List Dt) (vs : List V), Reps K H A ds vs → Reps K H (fun a => A a ∨ a = p) ds vs
  | [], _, h => h
  | d :: ds, _, h => by
    unfold Reps at h ⊢
    obtain ⟨v, r, e, h1, h2⟩ := h
    exact ⟨v, r, e, Rep.fresh hp d v h1, Reps.fresh hp ds r h2⟩
end
mutual
/-- what data uses stands -/
theorem Rep.inDom : ∀ (d : Dt) (v : V), Rep K H A d v → Rep K H (fun a => A a ∨ H a = none) d v
  | .non, _, h => h
  | .bl _, _, h => h
  | .int _, _, h => h
  | .str _, _, h => h
  | .ty _, _, h => h
  | .cls _, _, h => h
  | .tup ds, _, h => by
    unfold Rep at h ⊢
    obtain ⟨a, vs, e, h1, h2⟩ := h
    exact ⟨a, vs, e, h1.imp (fun ⟨x, y⟩ => ⟨fun z => z.elim x (fun z => by rw [y] at z; cases z), y⟩) id, Reps.inDom ds vs h2⟩
  | .lst ds, _, h => by
    unfold Rep at h ⊢
    obtain ⟨a, vs, e, x, y, h2⟩ := h
    exact ⟨a, vs, e, fun z => z.elim x (fun z => by rw [y] at z; cases z), y, Reps.inDom ds vs h2⟩
  | .fls ds, _, h => by
    unfold Rep at h ⊢
    obtain ⟨a, vs, e, h1, h2⟩ := h
    exact ⟨a, vs, e, h1.imp (fun ⟨x, o, y⟩ => ⟨fun z => z.elim x (fun z => by rw [y] at z; cases z), o, y⟩) id, Reps.inDom ds vs h2⟩
  | .dic ks ds, _, h => by
    unfold Rep at h ⊢
    obtain ⟨a, kvs, e, x, y, h1, h2⟩ := h
    exact ⟨a, kvs, e, fun z => z.elim x (fun z => by rw [y] at z; cases z), y, h1, Reps.inDom ds _ h2⟩
  | .exn a od C ns ds, _, h => by
    unfold Rep at h ⊢
    obtain ⟨fs, e, h1, h2, h3⟩ := h
    exact ⟨fs, e, h1.imp id (fun ⟨d, e1, x, y⟩ => ⟨d, e1, fun z => z.elim x (fun z => by rw [y] at z; cases z), y⟩), h2, Reps.inDom ds _ h3⟩
  | .obj C ns ds, _, h => by
    unfold Rep at h ⊢
    obtain ⟨a, dx, fs, e, x, y, h1, h2⟩ := h
    exact ⟨a, dx, fs, e, fun z => z.elim x (fun z => by rw [y] at z; cases z), y, h1, Reps.inDom ds _ h2⟩
theorem Reps.inDom : ∀ (ds : List Dt) (vs : List V), Reps K H A ds vs → Reps K H (fun a => A a ∨ H a = none) ds vs
  | [], _, h => h
  | d :: ds, _, h => by
    unfold Reps at h ⊢
    obtain ⟨v, r, e, h1, h2⟩ := h
    exact ⟨v, r, e, Rep.inDom d v h1, Reps.inDom ds r h2⟩
end
theorem Reps.length : ∀ {ds : List Dt} {vs : List V}, Reps K H A ds vs → vs.length = ds.length
  | [], _, h => by unfold Reps at h; subst h; rfl
  | d :: ds, _, h => by
    unfold Reps at h
    obtain ⟨v, r, rfl, _, h2⟩ := h
    simp [Reps.length h2]
theorem Reps.get : ∀ {ds : List Dt} {vs : List V} {i : Nat} {d : Dt}, Reps K H A ds vs → ds[i]? = some d → ∃ v, vs[i]? = some v ∧ Rep K H A d v
  | [], _, _, _, _, e => by simp at e
  | d :: ds, _, 0, _, h, e => by
    unfold Reps at h
    obtain ⟨v, r, rfl, h1, h2⟩ := h
    simp at e
    subst e
    exact ⟨v, rfl, h1⟩
  | d :: ds, _, i + 1, _, h, e => by
    unfold Reps at h
    obtain ⟨v, r, rfl, h1, h2⟩ := h
    obtain ⟨u, e1, r1⟩ := Reps.get (i := i) h2 (by simpa using e)
    exact ⟨u, by simpa using e1, r1⟩
theorem Reps.get' : ∀ {ds : List Dt} {vs : List V} {i : Nat} {v : V}, Reps K H A ds vs → vs[i]? = some v → ∃ d, ds[i]? = some d ∧ Rep K H A d v
  | [], _, _, _, h, e => by unfold Reps at h; subst h; simp at e
  | d :: ds, _, 0, _, h, e => by
    unfold Reps at h
    obtain ⟨v, r, rfl, h1, h2⟩ := h
    simp at e
    subst e
    exact ⟨d, rfl, h1⟩
  | d :: ds, _, i + 1, _, h, e => by
    unfold Reps at h
    obtain ⟨v, r, rfl, h1, h2⟩ := h
    obtain ⟨u, e1, r1⟩ := Reps.get' (i := i) h2 (by simpa using e)
    exact ⟨u, by simpa using e1, r1⟩
theorem Reps.append : ∀ {ds es : List Dt} {vs us : List V}, Reps K H A ds vs → Reps K H A es us → Reps K H A (ds ++ es) (vs ++ us)
  | [], _, _, _, h, g => by unfold Reps at h; subst h; exact g
  | d :: ds, _, _, _, h, g => by
    unfold Reps at h
    obtain ⟨v, r, rfl, h1, h2⟩ := h
    show Reps K H A (d :: (ds ++ _)) (v :: (r ++ _))
    unfold Reps
    exact ⟨v, _, rfl, h1, Reps.append h2 g⟩
theorem Reps.nil : Reps K H A [] [] := by unfold Reps; rfl
theorem Reps.cons {d : Dt} {ds : List Dt} {v : V} {vs : List V} (h : Rep K H A d v) (g : Reps K H A ds vs) : Reps K H A (d :: ds) (v :: vs) := by
  unfold Reps
  exact ⟨v, vs, rfl, h, g⟩
theorem Reps.set : ∀ {ds : List Dt} {vs : List V} (i : Nat) {d : Dt} {v : V}, Reps K H A ds vs → Rep K H A d v → Reps K H A (ds.set i d) (vs.set i v)
  | [], _, _, _, _, h, _ => by unfold Reps at h; subst h; exact Reps.nil
  | _ :: _, _, 0, _, _, h, g => by
    unfold Reps at h
    obtain ⟨v, r, rfl, h1, h2⟩ := h
    exact Reps.cons g h2
  | _ :: _, _, i + 1, _, _, h, g => by
    unfold Reps at h
    obtain ⟨v, r, rfl, h1, h2⟩ := h
    exact Reps.cons h1 (Reps.set i h2 g)
theorem Reps.take : ∀ {ds : List Dt} {vs : List V} (n : Nat), Reps K H A ds vs → Reps K H A (ds.take n) (vs.take n)
  | [], _, n, h => by unfold Reps at h; subst h; simpa using Reps.nil
  | _ :: _, _, 0, h => by simpa using Reps.nil
  | _ :: _, _, n + 1, h => by
    unfold Reps at h
    obtain ⟨v, r, rfl, h1, h2⟩ := h
    exact Reps.cons h1 (Reps.take n h2)
theorem Reps.drop : ∀ {ds : List Dt} {vs : List V} (n : Nat), Reps K H A ds vs → Reps K H A (ds.drop n) (vs.drop n)
  | [], _, n, h => by unfold Reps at h; subst h; simpa using Reps.nil
  | _ :: _, _, 0, h => h
  | _ :: _, _, n + 1, h => by
    unfold Reps at h
    obtain ⟨v, r, rfl, h1, h2⟩ := h
    exact Reps.drop n h2
theorem Reps.ints {ns : List Int} {vs : List V} (h : Reps K H A (ns.map Dt.int) vs) : vs = ns.map V.int := by
  induction ns generalizing vs with
  | nil => unfold Reps at h; exact h
  | cons n ns ih =>
    unfold Reps at h
    obtain ⟨v, r, rfl, h1, h2⟩ := h
    have e : v = .int n := h1
    rw [e, ih h2]
    rfl
end

/-! ### locals -/
/-- a slot: data that stands for good, or a list | a dict that this def alone holds -/
inductive Lo where
  | sh (d : Dt) | ol (ds : List Dt) | od (ks : List Key) (ds : List Dt)
def Lo.d : Lo → Dt
  | .sh d => d
  | .ol ds => .lst ds
  | .od ks ds => .dic ks ds
def Lo.own : Lo → Bool
  | .sh _ => false
  | _ => true
@[simp] theorem Lo.d_sh (d : Dt) : (Lo.sh d).d = d := rfl
@[simp] theorem Lo.d_ol (d : List Dt) : (Lo.ol d).d = .lst d := rfl
@[simp] theorem Lo.d_od (k : List Key) (d : List Dt) : (Lo.od k d).d = .dic k d := rfl
abbrev Env := List (Option Lo)
def OwnAt (ρ : Env) (σ : L2.St) (i : Nat) (a : Addr) : Prop := ∃ l, ρ[i]? = some (some l) ∧ l.own = true ∧ σ[i]? = some (some (.ref a))
def Av (A0 : Ad) (ρ : Env) (σ : L2.St) (lk : List Nat) : Ad := fun a => A0 a ∨ ∃ i, i ∉ lk ∧ OwnAt ρ σ i a
structure StOk (K : PySem.W.Frag) (H0 : Hp) (A0 : Ad) (H : Hp) (ρ : Env) (σ : L2.St) : Prop where
  same : Same H0 H
  a0 : ∀ a, A0 a → Mut (H0 a)
  len : σ.length = ρ.length
  sh : ∀ (i : Nat) (d : Dt), ρ[i]? = some (some (Lo.sh d)) → ∃ v : V, σ[i]? = some (some v) ∧ Rep K H (Av A0 ρ σ []) d v
  ol : ∀ (i : Nat) (ds : List Dt), ρ[i]? = some (some (Lo.ol ds)) → ∃ (a : Addr) (vs : List V), σ[i]? = some (some (V.ref a)) ∧ H0 a = none ∧ H a = some (.lst vs) ∧ Reps K H (Av A0 ρ σ []) ds vs
  od : ∀ (i : Nat) (ks : List Key) (ds : List Dt), ρ[i]? = some (some (Lo.od ks ds)) → ∃ (a : Addr) (kvs : List (Key × V)), σ[i]? = some (some (V.ref a)) ∧ H0 a = none ∧ H a = some (.dK kvs) ∧ kvs.map (·.1) = ks ∧ Reps K H (Av A0 ρ σ []) ds (kvs.map (·.2))
  ap : ∀ (i j : Nat) (a : Addr), OwnAt ρ σ i a → OwnAt ρ σ j a → i = j
def frz1 (ρ : Env) (i : Nat) : Env := match ρ[i]? with
  | some (some l) => ρ.set i (some (.sh l.d))
  | _ => ρ
def frz (lk : List Nat) (ρ : Env) : Env := lk.foldl frz1 ρ
@[simp] theorem frz_nil (ρ : Env) : frz [] ρ = ρ := rfl
@[simp] theorem frz_cons (i : Nat) (lk : List Nat) (ρ : Env) : frz (i :: lk) ρ = frz lk (frz1 ρ i) := rfl
/-- what a value of data d may hold of the own slots lk -/
def frzD (d : Dt) (lk : List Nat) (ρ : Env) : Env := if d.pure then ρ else frz lk ρ
section
variable {K : PySem.W.Frag} {H0 H H' : Hp} {A0 : Ad} {ρ : Env} {σ : L2.St}
theorem StOk.ownSome (s : StOk K H0 A0 H ρ σ) {i : Nat} {a : Addr} (h : OwnAt ρ σ i a) : (∃ o, H a = some o) ∧ H0 a = none := by
  obtain ⟨l, e, ho, es⟩ := h
  cases l with
  | sh d => cases ho
  | ol ds =>
    obtain ⟨b, vs, e1, h0, h1, _⟩ := s.ol i ds e
    rw [es] at e1
    cases e1
    exact ⟨⟨_, h1⟩, h0⟩
  | od ks ds =>
    obtain ⟨b, vs, e1, h0, h1, _⟩ := s.od i ks ds e
    rw [es] at e1
    cases e1
    exact ⟨⟨_, h1⟩, h0⟩
theorem StOk.avMut (s : StOk K H0 A0 H ρ σ) {lk : List Nat} {a : Addr} (h : Av A0 ρ σ lk a) : Mut (H a) := by
  rcases h with h | ⟨i, _, h⟩
  · have q := s.a0 a h
    cases e : H0 a with
    | none => rw [e] at q; exact False.elim q
    | some o =>
      rw [s.same a o e]
      rw [e] at q
      exact q
  · obtain ⟨l, e, ho, es⟩ := h
    cases l with
    | sh d => cases ho
    | ol ds =>
      obtain ⟨b, vs, e1, h0, h1, _⟩ := s.ol i ds e
      rw [es] at e1
      cases e1
      rw [h1]
      exact True.intro
    | od ks ds =>
      obtain ⟨b, vs, e1, h0, h1, _⟩ := s.od i ks ds e
      rw [es] at e1
      cases e1
      rw [h1]
      exact True.intro
theorem StOk.avSome (s : StOk K H0 A0 H ρ σ) {lk : List Nat} {a : Addr} (h : Av A0 ρ σ lk a) : H a ≠ none := fun z => by
  have q := s.avMut h
  rw [z] at q
  exact q
theorem StOk.notAv (s : StOk K H0 A0 H ρ σ) {lk : List Nat} {a : Addr} (h : H a = none) : ¬ Av A0 ρ σ lk a := fun z => s.avSome z h
theorem Av.sub {lk lk' : List Nat} (h : ∀ i, i ∈ lk → i ∈ lk') {a : Addr} (z : Av A0 ρ σ lk' a) : Av A0 ρ σ lk a := by
  rcases z with z | ⟨i, n, z⟩
  · exact .inl z
  · exact .inr ⟨i, fun q => n (h i q), z⟩
theorem Av.nil {lk : List Nat} {a : Addr} (z : Av A0 ρ σ lk a) : Av A0 ρ σ [] a := Av.sub (lk := []) (lk' := lk) (fun _ q => nomatch q) z
theorem Av.base {lk : List Nat} {a : Addr} (z : A0 a) : Av A0 ρ σ lk a := .inl z
/-- the heap grows -/
theorem StOk.grow (s : StOk K H0 A0 H ρ σ) (hs : Same H H') : StOk K H0 A0 H' ρ σ where
  same := s.same.trans hs
  a0 := s.a0
  len := s.len
  sh := fun i d e => by
    obtain ⟨v, e1, r⟩ := s.sh i d e
    exact ⟨v, e1, r.same hs⟩
  ol := fun i ds e => by
    obtain ⟨a, vs, e1, h0, h1, r⟩ := s.ol i ds e
    exact ⟨a, vs, e1, h0, hs _ _ h1, r.same hs⟩
  od := fun i ks ds e => by
    obtain ⟨a, vs, e1, h0, h1, h2, r⟩ := s.od i ks ds e
    exact ⟨a, vs, e1, h0, hs _ _ h1, h2, r.same hs⟩
  ap := s.ap
/-- any slot's value as data -/
theorem StOk.val (s : StOk K H0 A0 H ρ σ) {i : Nat} {l : Lo} (e : ρ[i]? = some (some l)) : ∃ v, σ[i]? = some (some v) ∧ Rep K H (Av A0 ρ σ [i]) l.d v := by
  cases l with
  | sh d =>
    obtain ⟨v, e1, r⟩ := s.sh i d e
    exact ⟨v, e1, r.anti fun _ z => z.nil⟩
  | ol ds =>
    obtain ⟨a, vs, e1, h0, h1, r⟩ := s.ol i ds e
    refine ⟨_, e1, ?_⟩
    show Rep K H _ (.lst ds) _
    unfold Rep
    refine ⟨a, vs, rfl, fun z => ?_, h1, r.anti fun _ z => z.nil⟩
    rcases z with z | ⟨j, n, z⟩
    · have q := s.a0 a z
      rw [h0] at q
      exact q
    · have q := s.ap i j a ⟨_, e, rfl, e1⟩ z
      subst q
      exact n (List.mem_singleton.mpr rfl)
  | od ks ds =>
    obtain ⟨a, vs, e1, h0, h1, h2, r⟩ := s.od i ks ds e
    refine ⟨_, e1, ?_⟩
    show Rep K H _ (.dic ks ds) _
    unfold Rep
    refine ⟨a, vs, rfl, fun z => ?_, h1, h2, r.anti fun _ z => z.nil⟩
    rcases z with z | ⟨j, n, z⟩
    · have q := s.a0 a z
      rw [h0] at q
      exact q
    · have q := s.ap i j a ⟨_, e, rfl, e1⟩ z
      subst q
      exact n (List.mem_singleton.mpr rfl)
/-- a slot is given data that stands -/
theorem StOk.put (s : StOk K H0 A0 H ρ σ) {i : Nat} {d : Dt} {v : V} (r : Rep K H (Av A0 ρ σ []) d v) : StOk K H0 A0 H (ρ.set i (some (.sh d))) (σ.set i (some v)) := by
  have own : ∀ j a, OwnAt (ρ.set i (some (.sh d))) (σ.set i (some v)) j a → j ≠ i ∧ OwnAt ρ σ j a := by
    rintro j a ⟨l, e, ho, es⟩
    by_cases h : i = j
    · subst h
      by_cases hl : i < ρ.length
      · rw [List.getElem?_set_self hl] at e
        cases e
        cases ho
      · rw [List.getElem?_eq_none (by rw [List.length_set]; omega)] at e
        cases e
    · rw [List.getElem?_set_ne h] at e es
      exact ⟨fun z => h z.symm, l, e, ho, es⟩
  have av : ∀ a, Av A0 (ρ.set i (some (.sh d))) (σ.set i (some v)) [] a → Av A0 ρ σ [] a := by
    rintro a (z | ⟨j, n, z⟩)
    · exact .inl z
    · exact .inr ⟨j, n, (own j a z).2⟩
  refine ⟨s.same, s.a0, by rw [List.length_set, List.length_set]; exact s.len, fun j d' e => ?_, fun j ds e => ?_, fun j ks ds e => ?_, fun j k a h1 h2 => s.ap j k a (own j a h1).2 (own k a h2).2⟩
  · by_cases h : i = j
    · subst h
      have hl : i < ρ.length := by
        have := (List.getElem?_eq_some_iff.mp e).1
        rw [List.length_set] at this
        exact this
      rw [List.getElem?_set_self hl] at e
      cases e
      exact ⟨v, List.getElem?_set_self (by rw [s.len]; exact hl), r.anti av⟩
    · rw [List.getElem?_set_ne h] at e
      obtain ⟨u, e1, r1⟩ := s.sh j d' e
      exact ⟨u, by rw [List.getElem?_set_ne h]; exact e1, r1.anti av⟩
  · by_cases h : i = j
    · subst h
      have hl : i < ρ.length := by
        have := (List.getElem?_eq_some_iff.mp e).1
        rw [List.length_set] at this
        exact this
      rw [List.getElem?_set_self hl] at e
      cases e
    · rw [List.getElem?_set_ne h] at e
      obtain ⟨u, vs, e1, h0, h1, r1⟩ := s.ol j ds e
      exact ⟨u, vs, by rw [List.getElem?_set_ne h]; exact e1, h0, h1, r1.anti av⟩
  · by_cases h : i = j
    · subst h
      have hl : i < ρ.length := by
        have := (List.getElem?_eq_some_iff.mp e).1
        rw [List.length_set] at this
        exact this
      rw [List.getElem?_set_self hl] at e
      cases e
    · rw [List.getElem?_set_ne h] at e
      obtain ⟨u, vs, e1, h0, h1, h2, r1⟩ := s.od j ks ds e
      exact ⟨u, vs, by rw [List.getElem?_set_ne h]; exact e1, h0, h1, h2, r1.anti av⟩
theorem StOk.putAv {i : Nat} {d : Dt} {v : V} {lk : List Nat} {a : Addr} (z : Av A0 (ρ.set i (some (.sh d))) (σ.set i (some v)) lk a) : Av A0 ρ σ lk a := by
  rcases z with z | ⟨j, n, l, e, ho, es⟩
  · exact .inl z
  · refine .inr ⟨j, n, ?_⟩
    by_cases h : i = j
    · subst h
      by_cases hl : i < ρ.length
      · rw [List.getElem?_set_self hl] at e
        cases e
        cases ho
      · rw [List.getElem?_eq_none (by rw [List.length_set]; omega)] at e
        cases e
    · rw [List.getElem?_set_ne h] at e es
      exact ⟨l, e, ho, es⟩
theorem set_getElem? {α : Type} {l : List α} {i : Nat} {x : α} (h : l[i]? = some x) : l.set i x = l := by
  apply List.ext_getElem?
  intro j
  by_cases e : i = j
  · subst e
    rw [List.getElem?_set_self (List.getElem?_eq_some_iff.mp h).1, h]
  · rw [List.getElem?_set_ne e]
/-- a slot is frozen -/
theorem StOk.fz1 (s : StOk K H0 A0 H ρ σ) (i : Nat) : StOk K H0 A0 H (frz1 ρ i) σ ∧ ∀ lk a, Av A0 (FD.frz1 ρ i) σ lk a → Av A0 ρ σ (i :: lk) a := by
  unfold FD.frz1
  split
  · rename_i l e
    obtain ⟨v, e1, r⟩ := s.val e
    have own : ∀ j a, OwnAt (ρ.set i (some (.sh l.d))) σ j a → j ≠ i ∧ OwnAt ρ σ j a := by
      rintro j a ⟨l', e', ho, es⟩
      by_cases h : i = j
      · subst h
        rw [List.getElem?_set_self (List.getElem?_eq_some_iff.mp e).1] at e'
        cases e'
        cases ho
      · rw [List.getElem?_set_ne h] at e'
        exact ⟨fun z => h z.symm, l', e', ho, es⟩
    have av : ∀ lk a, Av A0 (ρ.set i (some (.sh l.d))) σ lk a → Av A0 ρ σ (i :: lk) a := by
      rintro lk a (z | ⟨j, n, z⟩)
      · exact .inl z
      · obtain ⟨ne, z⟩ := own j a z
        exact .inr ⟨j, fun q => (List.mem_cons.mp q).elim ne n, z⟩
    have av0 : ∀ a, Av A0 (ρ.set i (some (.sh l.d))) σ [] a → Av A0 ρ σ [] a := fun a z => (av [] a z).nil
    refine ⟨⟨s.same, s.a0, by rw [List.length_set]; exact s.len, fun j d' e' => ?_, fun j ds e' => ?_, fun j ks ds e' => ?_, fun j k a h1 h2 => s.ap j k a (own j a h1).2 (own k a h2).2⟩, av⟩
    · by_cases h : i = j
      · subst h
        rw [List.getElem?_set_self (List.getElem?_eq_some_iff.mp e).1] at e'
        cases e'
        exact ⟨v, e1, r.anti fun a z => av [] a z⟩
      · rw [List.getElem?_set_ne h] at e'
        obtain ⟨u, e2, r2⟩ := s.sh j d' e'
        exact ⟨u, e2, r2.anti av0⟩
    · by_cases h : i = j
      · subst h
        rw [List.getElem?_set_self (List.getElem?_eq_some_iff.mp e).1] at e'
        cases e'
      · rw [List.getElem?_set_ne h] at e'
        obtain ⟨u, vs, e2, h0, h1, r2⟩ := s.ol j ds e'
        exact ⟨u, vs, e2, h0, h1, r2.anti av0⟩
    · by_cases h : i = j
      · subst h
        rw [List.getElem?_set_self (List.getElem?_eq_some_iff.mp e).1] at e'
        cases e'
      · rw [List.getElem?_set_ne h] at e'
        obtain ⟨u, vs, e2, h0, h1, h2, r2⟩ := s.od j ks ds e'
        exact ⟨u, vs, e2, h0, h1, h2, r2.anti av0⟩
  · rename_i hn
    refine ⟨s, fun lk a z => ?_⟩
    rcases z with z | ⟨j, n, z⟩
    · exact .inl z
    · refine .inr ⟨j, fun q => (List.mem_cons.mp q).elim (fun e => ?_) n, z⟩
      subst e
      obtain ⟨l, e, _⟩ := z
      exact hn l e
theorem StOk.fz (s : StOk K H0 A0 H ρ σ) (lk : List Nat) : StOk K H0 A0 H (frz lk ρ) σ ∧ ∀ mk a, Av A0 (FD.frz lk ρ) σ mk a → Av A0 ρ σ (lk ++ mk) a := by
  induction lk generalizing ρ with
  | nil => exact ⟨s, fun mk a z => z⟩
  | cons i lk ih =>
    obtain ⟨s1, h1⟩ := s.fz1 i
    obtain ⟨s2, h2⟩ := ih s1
    exact ⟨s2, fun mk a z => h1 _ a (h2 mk a z)⟩
theorem frz_length (lk : List Nat) (ρ : Env) : (FD.frz lk ρ).length = ρ.length := by
  induction lk generalizing ρ with
  | nil => rfl
  | cons i lk ih =>
    rw [frz_cons, ih]
    unfold FD.frz1
    split
    · rw [List.length_set]
    · rfl
/-- a slot is given the value of an expression -/
theorem StOk.give (s : StOk K H0 A0 H ρ σ) {i : Nat} {d : Dt} {v : V} {lk : List Nat} (hs : Same H H') (r : Rep K H' (Av A0 ρ σ lk) d v) : StOk K H0 A0 H' ((frzD d lk ρ).set i (some (.sh d))) (σ.set i (some v)) := by
  unfold frzD
  split
  · rename_i hd
    exact (s.grow hs).put (Rep.pure (fun a z => (s.grow hs).avMut z) d v hd r)
  · obtain ⟨s1, h1⟩ := (s.grow hs).fz lk
    exact s1.put (r.anti fun a z => by have q := h1 [] a z; rwa [List.append_nil] at q)
/-- a slot is given a new list of its own -/
theorem StOk.giveL (s : StOk K H0 A0 H ρ σ) {i : Nat} {ds : List Dt} {vs : List V} {p : Addr} {lk : List Nat} (hs : Same H H') (hp : H p = none) (hp' : H' p = some (.lst vs)) (r : Reps K H' (fun a => Av A0 ρ σ lk a ∨ a = p) ds vs) :
    StOk K H0 A0 H' ((frz lk ρ).set i (some (.ol ds))) (σ.set i (some (.ref p))) := by
  obtain ⟨s1, h1⟩ := s.fz lk
  have hp0 : H0 p = none := s.same.free hp
  have own : ∀ j a, OwnAt ((frz lk ρ).set i (some (.ol ds))) (σ.set i (some (.ref p))) j a → (j ≠ i ∧ OwnAt (frz lk ρ) σ j a) ∨ (j = i ∧ a = p) := by
    rintro j a ⟨l, e, ho, es⟩
    by_cases h : i = j
    · subst h
      have hl : i < (frz lk ρ).length := by
        have := (List.getElem?_eq_some_iff.mp e).1
        rw [List.length_set] at this
        exact this
      rw [List.getElem?_set_self (by rw [s1.len]; exact hl)] at es
      cases es
      exact .inr ⟨rfl, rfl⟩
    · rw [List.getElem?_set_ne h] at e es
      exact .inl ⟨fun z => h z.symm, l, e, ho, es⟩
  have ne : ∀ j a, OwnAt (frz lk ρ) σ j a → a ≠ p := by
    rintro j a h rfl
    obtain ⟨⟨o, e⟩, _⟩ := s1.ownSome h
    rw [hp] at e
    cases e
  have av : ∀ a, Av A0 ((frz lk ρ).set i (some (.ol ds))) (σ.set i (some (.ref p))) [] a → Av A0 (frz lk ρ) σ [] a ∨ a = p := by
    rintro a (z | ⟨j, n, z⟩)
    · exact .inl (.inl z)
    · rcases own j a z with ⟨_, z⟩ | ⟨_, z⟩
      · exact .inl (.inr ⟨j, n, z⟩)
      · exact .inr z
  refine ⟨s.same.trans hs, s.a0, by rw [List.length_set, List.length_set]; exact s1.len, fun j d' e => ?_, fun j es e => ?_, fun j ks es e => ?_, fun j k a x1 x2 => ?_⟩
  · by_cases h : i = j
    · subst h
      have hl : i < (frz lk ρ).length := by
        have := (List.getElem?_eq_some_iff.mp e).1
        rw [List.length_set] at this
        exact this
      rw [List.getElem?_set_self hl] at e
      cases e
    · rw [List.getElem?_set_ne h] at e
      obtain ⟨u, e1, r1⟩ := s1.sh j d' e
      exact ⟨u, by rw [List.getElem?_set_ne h]; exact e1, ((Rep.fresh hp _ _ r1).same hs).anti av⟩
  · by_cases h : i = j
    · subst h
      have hl : i < (frz lk ρ).length := by
        have := (List.getElem?_eq_some_iff.mp e).1
        rw [List.length_set] at this
        exact this
      rw [List.getElem?_set_self hl] at e
      cases e
      refine ⟨p, vs, List.getElem?_set_self (by rw [s1.len]; exact hl), hp0, hp', r.anti fun a z => ?_⟩
      rcases av a z with z | z
      · have q := h1 [] a z
        rw [List.append_nil] at q
        exact .inl q
      · exact .inr z
    · rw [List.getElem?_set_ne h] at e
      obtain ⟨u, us, e1, h0, h1', r1⟩ := s1.ol j es e
      exact ⟨u, us, by rw [List.getElem?_set_ne h]; exact e1, h0, hs _ _ h1', ((Reps.fresh hp _ _ r1).same hs).anti av⟩
  · by_cases h : i = j
    · subst h
      have hl : i < (frz lk ρ).length := by
        have := (List.getElem?_eq_some_iff.mp e).1
        rw [List.length_set] at this
        exact this
      rw [List.getElem?_set_self hl] at e
      cases e
    · rw [List.getElem?_set_ne h] at e
      obtain ⟨u, us, e1, h0, h1', h2, r1⟩ := s1.od j ks es e
      exact ⟨u, us, by rw [List.getElem?_set_ne h]; exact e1, h0, hs _ _ h1', h2, ((Reps.fresh hp _ _ r1).same hs).anti av⟩
  · rcases own j a x1 with ⟨n1, x1⟩ | ⟨n1, y1⟩
    · rcases own k a x2 with ⟨n2, x2⟩ | ⟨n2, y2⟩
      · exact s1.ap j k a x1 x2
      · exact absurd y2 (ne j a x1)
    · rcases own k a x2 with ⟨n2, x2⟩ | ⟨n2, y2⟩
      · exact absurd y1 (ne k a x2)
      · rw [n1, n2]
/-- an own list changes -/
theorem StOk.mutL (s : StOk K H0 A0 H ρ σ) {i : Nat} {ds es : List Dt} {a : Addr} {us : List V} (e : ρ[i]? = some (some (.ol ds))) (hσ : σ[i]? = some (some (.ref a))) (r : Reps K H (Av A0 ρ σ []) es us) :
    StOk K H0 A0 (upd H a (.lst us)) (ρ.set i (some (.ol es))) σ := by
  obtain ⟨b, vs, e1, h0, h1, _⟩ := s.ol i ds e
  rw [hσ] at e1
  cases e1
  have hl : i < ρ.length := (List.getElem?_eq_some_iff.mp e).1
  have own : ∀ j c, OwnAt (ρ.set i (some (.ol es))) σ j c → OwnAt ρ σ j c := by
    rintro j c ⟨l, e', ho, es'⟩
    by_cases h : i = j
    · subst h
      exact ⟨_, e, rfl, es'⟩
    · rw [List.getElem?_set_ne h] at e'
      exact ⟨l, e', ho, es'⟩
  have av : ∀ c, Av A0 (ρ.set i (some (.ol es))) σ [] c → Av A0 ρ σ [] c := by
    rintro c (z | ⟨j, n, z⟩)
    · exact .inl z
    · exact .inr ⟨j, n, own j c z⟩
  have ava : Av A0 ρ σ [] a := .inr ⟨i, (fun z => nomatch z), _, e, rfl, hσ⟩
  have keep : ∀ b o, ¬ Av A0 ρ σ [] b → H b = some o → upd H a (.lst us) b = some o := fun b o n q => by
    rw [upd_ne (fun z => by subst z; exact n ava)]
    exact q
  refine ⟨fun b o q => ?_, s.a0, by rw [List.length_set]; exact s.len, fun j d' e' => ?_, fun j ds' e' => ?_, fun j ks ds' e' => ?_, fun j k c x y => s.ap j k c (own j c x) (own k c y)⟩
  · rw [upd_ne (ne_of_none q h0)]
    exact s.same b o q
  · by_cases h : i = j
    · subst h
      rw [List.getElem?_set_self hl] at e'
      cases e'
    · rw [List.getElem?_set_ne h] at e'
      obtain ⟨u, e2, r2⟩ := s.sh j d' e'
      exact ⟨u, e2, Rep.mono keep av _ _ r2⟩
  · by_cases h : i = j
    · subst h
      rw [List.getElem?_set_self hl] at e'
      cases e'
      exact ⟨a, us, hσ, h0, upd_same, Reps.mono keep av _ _ r⟩
    · rw [List.getElem?_set_ne h] at e'
      obtain ⟨u, ws, e2, h0', h1', r2⟩ := s.ol j ds' e'
      refine ⟨u, ws, e2, h0', ?_, Reps.mono keep av _ _ r2⟩
      rw [upd_ne (fun z => by subst z; exact h (s.ap i j u ⟨_, e, rfl, hσ⟩ ⟨_, e', rfl, e2⟩))]
      exact h1'
  · by_cases h : i = j
    · subst h
      rw [List.getElem?_set_self hl] at e'
      cases e'
    · rw [List.getElem?_set_ne h] at e'
      obtain ⟨u, ws, e2, h0', h1', h2', r2⟩ := s.od j ks ds' e'
      refine ⟨u, ws, e2, h0', ?_, h2', Reps.mono keep av _ _ r2⟩
      rw [upd_ne (fun z => by subst z; exact h (s.ap i j u ⟨_, e, rfl, hσ⟩ ⟨_, e', rfl, e2⟩))]
      exact h1'
end
end FD

namespace FD
open PySem L2

/-! ### what is wanted behind -/
/-- an exception of the class at c, with its own dict od, is x -/
def NoA : Ad := fun _ => False
def ExOk (K : PySem.W.Frag) (H : Hp) (x : Exn) (c : Value) (od : Option Addr) : Prop :=
  c = .ref x.cls ∧ Dt.pures (x.fs.map (·.2)) = true ∧ match od with
    | none => x.fs = []
    | some d => ∃ fs : List (Str × V), H d = some (.xd fs) ∧ fs.map (·.1) = x.fs.map (·.1) ∧ Reps K H NoA (x.fs.map (·.2)) (fs.map (·.2))
/-- R of what comes, the wish W of what is raised -/
def PostX (K : PySem.W.Frag) (W : WX) (H : Hp) (σ : L2.St) {α : Type} (o : Out α) (R : α → Prop) : Prop := match o with
  | .ok a => R a
  | .exc x => ∀ c od H', Same H H' → ExOk K H' x c od → W c od σ H'
  | .bad => False
def RE (K : PySem.W.Frag) (A : Ad) (H : Hp) (Q : VK) (d : Dt) : Prop := ∀ v H', Same H H' → Rep K H' A d v → Q v H'
def RL (K : PySem.W.Frag) (A : Ad) (H : Hp) (Q : VK) (ds : List Dt) : Prop := ∀ p vs H', Same H H' → H p = none → H' p = some (.lst vs) → Reps K H' (fun a => A a ∨ a = p) ds vs → Q (.ref p) H'
def RA (K : PySem.W.Frag) (A : Ad) (H : Hp) (Q : List V → Hp → Prop) (ds : List Dt) : Prop := ∀ vs H', Same H H' → Reps K H' A ds vs → Q vs H'
def RT (H : Hp) (Q : Bool → Hp → Prop) (b : Bool) : Prop := ∀ H', Same H H' → Q b H'
def TED (K : PySem.W.Frag) (W : WX) (te : TE) (f : Env → Out Dt) (lk : List Nat) : Prop :=
  ∀ (H0 : Hp) (A0 : Ad) (ρ : Env) (σ : L2.St) (H : Hp) (Q : VK), StOk K H0 A0 H ρ σ → PostX K W H σ (f ρ) (RE K (Av A0 ρ σ lk) H Q) → te σ H Q
def TLD (K : PySem.W.Frag) (W : WX) (te : TE) (f : Env → Out (List Dt)) (lk : List Nat) : Prop :=
  ∀ (H0 : Hp) (A0 : Ad) (ρ : Env) (σ : L2.St) (H : Hp) (Q : VK), StOk K H0 A0 H ρ σ → PostX K W H σ (f ρ) (RL K (Av A0 ρ σ lk) H Q) → te σ H Q
def TAD (K : PySem.W.Frag) (W : WX) (ta : TA) (f : Env → Out (List Dt)) (lk : List Nat) : Prop :=
  ∀ (H0 : Hp) (A0 : Ad) (ρ : Env) (σ : L2.St) (H : Hp) (Q : List V → Hp → Prop), StOk K H0 A0 H ρ σ → PostX K W H σ (f ρ) (RA K (Av A0 ρ σ lk) H Q) → ta σ H Q
def TTD (K : PySem.W.Frag) (W : WX) (tt : TT) (f : Env → Out Bool) (lk : List Nat) : Prop :=
  ∀ (H0 : Hp) (A0 : Ad) (ρ : Env) (σ : L2.St) (H : Hp) (Q : Bool → Hp → Prop), StOk K H0 A0 H ρ σ → PostX K W H σ (f ρ) (RT H Q) → tt σ H Q
def PED (X : Cx) (W : WX) (e : Expr) (f : Env → Out Dt) (lk : List Nat) : Prop := ∃ te, PE X e te ∧ TED X.K W te f lk
def PLD (X : Cx) (W : WX) (e : Expr) (f : Env → Out (List Dt)) (lk : List Nat) : Prop := ∃ te, PE X e te ∧ TLD X.K W te f lk
def PAD (X : Cx) (W : WX) (es : List Expr) (f : Env → Out (List Dt)) (lk : List Nat) : Prop := ∃ ta, PA X es ta ∧ TAD X.K W ta f lk
def PTD (X : Cx) (W : WX) (e : Expr) (f : Env → Out Bool) (lk : List Nat) : Prop := ∃ tt, PT X e tt ∧ TTD X.K W tt f lk
def PWD (X : Cx) (W : WX) (e : Expr) (f : Env → Out Bool) (lk : List Nat) : Prop := ∃ tt, PW X e tt ∧ TTD X.K W tt f lk

section
variable {K : PySem.W.Frag} {W : WX} {H0 H H1 H2 : Hp} {A A' A0 : Ad} {ρ : Env} {σ : L2.St} {lk la lb lc mk : List Nat} {Q : VK} {d : Dt} {v : V} {x : Exn} {α β : Type}
theorem ExOk.same {c : Value} {od : Option Addr} (hs : Same H H1) (h : ExOk K H x c od) : ExOk K H1 x c od := by
  obtain ⟨e, p, h⟩ := h
  refine ⟨e, p, ?_⟩
  cases od with
  | none => exact h
  | some d =>
    obtain ⟨fs, h1, h3, h4⟩ := h
    exact ⟨fs, hs _ _ h1, h3, h4.same hs⟩
theorem PostX.grow {o : Out α} {R : α → Prop} (hs : Same H H1) (h : PostX K W H σ o R) : PostX K W H1 σ o R := by
  cases o with
  | ok d => exact h
  | exc x => exact fun c od H' s r => h c od H' (hs.trans s) r
  | bad => exact h
/-- behind the first of two -/
theorem PostX.seq {o : Out α} {g : α → Out β} {R : β → Prop} {R' : α → Prop} (h : PostX K W H σ (o.bind g) R) (hk : ∀ a, o = .ok a → PostX K W H σ (g a) R → R' a) : PostX K W H σ o R' := by
  cases o with
  | ok d => exact hk d rfl h
  | exc x => exact h
  | bad => exact h
theorem PostX.imp {o : Out α} {R R' : α → Prop} (h : PostX K W H σ o R) (hk : ∀ a, o = .ok a → R a → R' a) : PostX K W H σ o R' := by
  cases o with
  | ok d => exact hk d rfl h
  | exc x => exact h
  | bad => exact h
theorem avL {a : Addr} (z : Av A0 ρ σ (la ++ lb) a) : Av A0 ρ σ la a := Av.sub (fun _ h => List.mem_append_left _ h) z
theorem avR {a : Addr} (z : Av A0 ρ σ (la ++ lb) a) : Av A0 ρ σ lb a := Av.sub (fun _ h => List.mem_append_right _ h) z

/-! ### combinators of meanings -/
def ofO {α : Type} : Option α → Out α
  | some a => .ok a
  | none => .bad
@[simp] theorem ofO_some {α : Type} (a : α) : ofO (some a) = .ok a := rfl
@[simp] theorem ofO_none {α : Type} : (ofO none : Out α) = .bad := rfl
def eVar (i : Nat) : Env → Out Dt := fun ρ => match ρ[i]? with
  | some (some l) => .ok l.d
  | _ => .bad
def eC (d : Dt) : Env → Out Dt := fun _ => .ok d
def e1 (fa : Env → Out Dt) (g : Dt → Option Dt) : Env → Out Dt := fun ρ => (fa ρ).bind fun a => ofO (g a)
def e2 (fa fb : Env → Out Dt) (g : Dt → Dt → Option Dt) : Env → Out Dt := fun ρ => (fa ρ).bind fun a => (fb ρ).bind fun b => ofO (g a b)
def t2 (fa fb : Env → Out Dt) (g : Dt → Dt → Option Bool) : Env → Out Bool := fun ρ => (fa ρ).bind fun a => (fb ρ).bind fun b => ofO (g a b)
def t1 (fa : Env → Out Dt) (g : Dt → Option Bool) : Env → Out Bool := fun ρ => (fa ρ).bind fun a => ofO (g a)
def eT (ft : Env → Out Bool) : Env → Out Dt := fun ρ => (ft ρ).bind fun b => .ok (.bl b)
def tAndD (f g : Env → Out Bool) : Env → Out Bool := fun ρ => (f ρ).bind fun b => if b = true then g ρ else .ok false
def tOrD (f g : Env → Out Bool) : Env → Out Bool := fun ρ => (f ρ).bind fun b => if b = true then .ok true else g ρ
def tNotD (f : Env → Out Bool) : Env → Out Bool := fun ρ => (f ρ).bind fun b => .ok (!b)
def eIfD (c : Env → Out Bool) (f g : Env → Out Dt) : Env → Out Dt := fun ρ => (c ρ).bind fun b => if b = true then f ρ else g ρ
def aNil : Env → Out (List Dt) := fun _ => .ok []
def aCons (f : Env → Out Dt) (g : Env → Out (List Dt)) : Env → Out (List Dt) := fun ρ => (f ρ).bind fun d => (g ρ).bind fun ds => .ok (d :: ds)
def eTup (f : Env → Out (List Dt)) : Env → Out Dt := fun ρ => (f ρ).bind fun ds => if ds.length ≤ 16777216 then .ok (.tup ds) else .bad
def lLst (f : Env → Out (List Dt)) : Env → Out (List Dt) := fun ρ => (f ρ).bind fun ds => if ds.length ≤ 16777216 then .ok ds else .bad
def eL (f : Env → Out (List Dt)) : Env → Out Dt := fun ρ => (f ρ).bind fun ds => .ok (.lst ds)

/-! ### operations on values -/
def OpV (K : PySem.W.Frag) (r : R2) (g : Dt → Dt → Option Dt) : Prop := ∀ (H : Hp) (A : Ad) (a b d : Dt) (x y : V) (Q : VK), (∀ c, A c → H c ≠ none) → Rep K H A a x → Rep K H A b y → g a b = some d → RE K A H Q d → r x y H Q
def UnV (K : PySem.W.Frag) (r : V → Hp → VK → Prop) (g : Dt → Option Dt) : Prop := ∀ (H : Hp) (A : Ad) (a d : Dt) (x : V) (Q : VK), (∀ c, A c → H c ≠ none) → Rep K H A a x → g a = some d → RE K A H Q d → r x H Q
def OpT (K : PySem.W.Frag) (r : R2) (g : Dt → Dt → Option Bool) : Prop := ∀ (H : Hp) (A : Ad) (a b : Dt) (d : Bool) (x y : V) (Q : VK), Rep K H A a x → Rep K H A b y → g a b = some d → Q (.bl d) H → r x y H Q
theorem OpV.or {r r' : R2} {g g' : Dt → Dt → Option Dt} (h : OpV K r g) (h' : OpV K r' g') : OpV K (fun x y H Q => r x y H Q ∨ r' x y H Q) (fun a b => (g a b).orElse fun _ => g' a b) := by
  intro H A a b d x y Q ha ra rb e q
  cases e1 : g a b with
  | some d' =>
    simp only [e1, Option.orElse] at e
    cases e
    exact .inl (h H A a b d x y Q ha ra rb e1 q)
  | none =>
    simp only [e1, Option.orElse] at e
    exact .inr (h' H A a b d x y Q ha ra rb e q)
theorem OpT.or {r r' : R2} {g g' : Dt → Dt → Option Bool} (h : OpT K r g) (h' : OpT K r' g') : OpT K (fun x y H Q => r x y H Q ∨ r' x y H Q) (fun a b => (g a b).orElse fun _ => g' a b) := by
  intro H A a b d x y Q ra rb e q
  cases e1 : g a b with
  | some d' =>
    simp only [e1, Option.orElse] at e
    cases e
    exact .inl (h H A a b d x y Q ra rb e1 q)
  | none =>
    simp only [e1, Option.orElse] at e
    exact .inr (h' H A a b d x y Q ra rb e q)

theorem ofO_seq {o : Option α} {R : α → Prop} (h : PostX K W H σ (ofO o) R) : ∃ a, o = some a ∧ R a := by
  cases o with
  | some a => exact ⟨a, rfl, h⟩
  | none => exact False.elim h
theorem RE.grow (hs : Same H H1) (h : RE K A H Q d) : RE K A H1 Q d := fun v H' s r => h v H' (hs.trans s) r
theorem RE.now (h : RE K A H Q d) (r : Rep K H A d v) : Q v H := h v H (Same.refl H) r
theorem ted_var (i : Nat) : TED K W (tVar i) (eVar i) [i] := by
  intro H0 A0 ρ σ H Q s h
  unfold eVar at h
  split at h
  · rename_i l e
    obtain ⟨v, e1, r⟩ := s.val e
    exact ⟨v, e1, RE.now h r⟩
  · exact False.elim h
theorem ted_c {v : V} {d : Dt} (hr : ∀ H A, Rep K H A d v) : TED K W (tC v) (eC d) [] := fun H0 A0 ρ σ H Q s h => RE.now h (hr _ _)
/-- two operands, an operation -/
theorem ted_2 {ta tb : TE} {fa fb : Env → Out Dt} {g : Dt → Dt → Option Dt} {r : R2} (hr : OpV K r g) (ha : TED K W ta fa la) (hb : TED K W tb fb lb) : TED K W (tOp r ta tb) (e2 fa fb g) (la ++ lb) := by
  intro H0 A0 ρ σ H Q s h
  refine ha _ _ _ _ _ _ s (h.seq fun a _ h1 v1 H1 s1 r1 => ?_)
  refine hb _ _ _ _ _ _ (s.grow s1) ((h1.grow s1).seq fun b _ h2 v2 H2 s2 r2 => ?_)
  obtain ⟨d, e, q⟩ := ofO_seq h2
  exact hr H2 _ a b d v1 v2 Q (fun c z => (s.grow (s1.trans s2)).avSome z) ((r1.same s2).anti fun _ => avL) (r2.anti fun _ => avR) e (RE.grow (s1.trans s2) q)
theorem Rep.noA (h : Rep K H A d v) : Rep K H NoA d v := h.anti fun _ z => False.elim z
/-- .. where what comes is a number, a text, .. -/
theorem ted_2s {ta tb : TE} {fa fb : Env → Out Dt} {g : Dt → Dt → Option Dt} {r : R2} (hr : OpV K r g) (hg : ∀ a b d, g a b = some d → d.scal = true) (ha : TED K W ta fa la) (hb : TED K W tb fb lb) : TED K W (tOp r ta tb) (e2 fa fb g) [] := by
  intro H0 A0 ρ σ H Q s h
  refine ha _ _ _ _ _ _ s (h.seq fun a _ h1 v1 H1 s1 r1 => ?_)
  refine hb _ _ _ _ _ _ (s.grow s1) ((h1.grow s1).seq fun b _ h2 v2 H2 s2 r2 => ?_)
  obtain ⟨d, e, q⟩ := ofO_seq h2
  refine hr H2 NoA a b d v1 v2 Q (fun c z => False.elim z) (r1.same s2).noA r2.noA e fun v H' s' r => ?_
  exact q v H' ((s1.trans s2).trans s') (r.scal (hg _ _ _ e))
theorem ted_1 {ta : TE} {fa : Env → Out Dt} {g : Dt → Option Dt} {r : V → Hp → VK → Prop} (hr : UnV K r g) (ha : TED K W ta fa la) : TED K W (tUn r ta) (e1 fa g) la := by
  intro H0 A0 ρ σ H Q s h
  refine ha _ _ _ _ _ _ s (h.seq fun a _ h1 v1 H1 s1 r1 => ?_)
  obtain ⟨d, e, q⟩ := ofO_seq h1
  exact hr H1 _ a d v1 Q (fun c z => (s.grow s1).avSome z) r1 e (RE.grow s1 q)
/-- a comparison as a test, as a value -/
theorem ttd_2 {ta tb : TE} {fa fb : Env → Out Dt} {g : Dt → Dt → Option Bool} {r : R2} (hr : OpT K r g) (ha : TED K W ta fa la) (hb : TED K W tb fb lb) : TTD K W (tTest (tOp r ta tb)) (t2 fa fb g) [] := by
  intro H0 A0 ρ σ H Q s h
  refine ha _ _ _ _ _ _ s (h.seq fun a _ h1 v1 H1 s1 r1 => ?_)
  refine hb _ _ _ _ _ _ (s.grow s1) ((h1.grow s1).seq fun b _ h2 v2 H2 s2 r2 => ?_)
  obtain ⟨d, e, q⟩ := ofO_seq h2
  exact hr H2 NoA a b d v1 v2 _ (r1.same s2).noA r2.noA e ⟨d, rfl, q H2 (s1.trans s2)⟩
theorem ted_cmp {ta tb : TE} {fa fb : Env → Out Dt} {g : Dt → Dt → Option Bool} {r : R2} (hr : OpT K r g) (ha : TED K W ta fa la) (hb : TED K W tb fb lb) : TED K W (tOp r ta tb) (eT (t2 fa fb g)) [] := by
  intro H0 A0 ρ σ H Q s h
  unfold eT t2 at h
  rw [Out.bind_assoc] at h
  refine ha _ _ _ _ _ _ s (h.seq fun a _ h1 v1 H1 s1 r1 => ?_)
  rw [Out.bind_assoc] at h1
  refine hb _ _ _ _ _ _ (s.grow s1) ((h1.grow s1).seq fun b _ h2 v2 H2 s2 r2 => ?_)
  cases e : g a b with
  | none =>
    rw [e] at h2
    exact False.elim h2
  | some d =>
    rw [e] at h2
    exact hr H2 NoA a b d v1 v2 _ (r1.same s2).noA r2.noA e (h2 (.bl d) H2 (s1.trans s2) rfl)
theorem ttd_and {ta tb : TT} {fa fb : Env → Out Bool} (ha : TTD K W ta fa la) (hb : TTD K W tb fb lb) : TTD K W (tAnd ta tb) (tAndD fa fb) [] := by
  intro H0 A0 ρ σ H Q s h
  refine ha _ _ _ _ _ _ s (h.seq fun b _ h1 H1 s1 => ?_)
  cases b with
  | true => exact hb _ _ _ _ _ _ (s.grow s1) ((h1.grow s1).imp fun c _ q H2 s2 => q H2 (s1.trans s2))
  | false => exact h1 H1 s1
theorem ttd_or {ta tb : TT} {fa fb : Env → Out Bool} (ha : TTD K W ta fa la) (hb : TTD K W tb fb lb) : TTD K W (tOr ta tb) (tOrD fa fb) [] := by
  intro H0 A0 ρ σ H Q s h
  refine ha _ _ _ _ _ _ s (h.seq fun b _ h1 H1 s1 => ?_)
  cases b with
  | false => exact hb _ _ _ _ _ _ (s.grow s1) ((h1.grow s1).imp fun c _ q H2 s2 => q H2 (s1.trans s2))
  | true => exact h1 H1 s1
theorem ttd_not {ta : TT} {fa : Env → Out Bool} (ha : TTD K W ta fa la) : TTD K W (tNot ta) (tNotD fa) [] := by
  intro H0 A0 ρ σ H Q s h
  exact ha _ _ _ _ _ _ s (h.seq fun b _ h1 H1 s1 => h1 H1 s1)
theorem ted_if {tc : TT} {ta tb : TE} {fc : Env → Out Bool} {fa fb : Env → Out Dt} (hc : TTD K W tc fc lc) (ha : TED K W ta fa la) (hb : TED K W tb fb lb) : TED K W (tIf tc ta tb) (eIfD fc fa fb) (la ++ lb) := by
  intro H0 A0 ρ σ H Q s h
  refine hc _ _ _ _ _ _ s (h.seq fun b _ h1 H1 s1 => ?_)
  cases b with
  | true => exact ha _ _ _ _ _ _ (s.grow s1) ((h1.grow s1).imp fun c _ q v H2 s2 r => q v H2 (s1.trans s2) (r.anti fun _ => avL))
  | false => exact hb _ _ _ _ _ _ (s.grow s1) ((h1.grow s1).imp fun c _ q v H2 s2 r => q v H2 (s1.trans s2) (r.anti fun _ => avR))
theorem tad_nil : TAD K W tNil aNil [] := fun H0 A0 ρ σ H Q s h => h [] H (Same.refl H) Reps.nil
theorem tad_cons {ta : TE} {tr : TA} {f : Env → Out Dt} {g : Env → Out (List Dt)} (ha : TED K W ta f la) (hr : TAD K W tr g lb) : TAD K W (tCons ta tr) (aCons f g) (la ++ lb) := by
  intro H0 A0 ρ σ H Q s h
  refine ha _ _ _ _ _ _ s (h.seq fun a _ h1 v1 H1 s1 r1 => ?_)
  refine hr _ _ _ _ _ _ (s.grow s1) ((h1.grow s1).seq fun b _ h2 v2 H2 s2 r2 => ?_)
  exact h2 _ H2 (s1.trans s2) (Reps.cons ((r1.same s2).anti fun _ => avL) (r2.anti fun _ => avR))
theorem Same.new {p : Addr} {o : HO} (h : H p = none) : Same H (upd H p o) := fun a u e => by
  rw [upd_ne (ne_of_none e h)]
  exact e
theorem ted_tup {ta : TA} {f : Env → Out (List Dt)} (ha : TAD K W ta f la) : TED K W (tTup ta) (eTup f) la := by
  intro H0 A0 ρ σ H Q s h
  refine ha _ _ _ _ _ _ s (h.seq fun ds _ h1 vs H1 s1 r1 => ?_)
  split at h1
  · rename_i hl
    refine ⟨by rw [r1.length, sizeLine_eq]; exact hl, fun p hp => h1 _ _ (s1.trans (Same.new hp)) ?_⟩
    unfold Rep
    exact ⟨p, vs, rfl, .inl ⟨(s.grow s1).notAv hp, upd_same⟩, r1.same (Same.new hp)⟩
  · exact False.elim h1
theorem tld_lst {ta : TA} {f : Env → Out (List Dt)} (ha : TAD K W ta f la) : TLD K W (tLst ta) (lLst f) la := by
  intro H0 A0 ρ σ H Q s h
  refine ha _ _ _ _ _ _ s (h.seq fun ds _ h1 vs H1 s1 r1 => ?_)
  split at h1
  · rename_i hl
    refine ⟨by rw [r1.length, sizeLine_eq]; exact hl, fun p hp => h1 p vs _ (s1.trans (Same.new hp)) (s1.free hp) upd_same ?_⟩
    exact (Reps.fresh hp _ _ r1).same (Same.new hp)
  · exact False.elim h1
/-- a new list as data -/
theorem ted_l {te : TE} {f : Env → Out (List Dt)} (ha : TLD K W te f la) : TED K W te (eL f) la := by
  intro H0 A0 ρ σ H Q s h
  refine ha _ _ _ _ _ _ s (h.seq fun ds _ h1 p vs H1 s1 hp hp' r => h1 _ H1 s1 ?_)
  unfold Rep
  exact ⟨p, vs, rfl, s.notAv hp, hp', r.anti fun _ z => .inl z⟩
end
end FD

namespace FD
open PySem L2
/-! ### what operators give -/
theorem some_ite {α : Type} {c : Prop} [Decidable c] {a b : α} (h : (if c then some a else none) = some b) : c ∧ a = b := by
  split at h
  · exact ⟨‹_›, Option.some.inj h⟩
  · cases h
/-- two ints -/
def gI (C : Int → Int → Bool) (f : Int → Int → Int) : Dt → Dt → Option Dt
  | .int i, .int j => if C i j = true then some (.int (f i j)) else none
  | _, _ => none
def gI0 (f : Int → Int → Int) : Dt → Dt → Option Dt
  | .int i, .int j => some (.int (f i j))
  | _, _ => none
def cI (f : Int → Int → Bool) : Dt → Dt → Option Bool
  | .int i, .int j => some (f i j)
  | _, _ => none
@[simp] theorem gI_int (C : Int → Int → Bool) (f : Int → Int → Int) (i j : Int) : gI C f (.int i) (.int j) = if C i j = true then some (.int (f i j)) else none := rfl
@[simp] theorem gI0_int (f : Int → Int → Int) (i j : Int) : gI0 f (.int i) (.int j) = some (.int (f i j)) := rfl
@[simp] theorem cI_int (f : Int → Int → Bool) (i j : Int) : cI f (.int i) (.int j) = some (f i j) := rfl
def gStrA : Dt → Dt → Option Dt
  | .str x, .str y => if x.length + y.length ≤ 16777216 then some (.str (x ++ y)) else none
  | _, _ => none
def gLstA : Dt → Dt → Option Dt
  | .lst x, .lst y => if x.length + y.length ≤ 16777216 then some (.lst (x ++ y)) else none
  | _, _ => none
def gTupA : Dt → Dt → Option Dt
  | .tup x, .tup y => if x.length + y.length ≤ 16777216 ∧ x ≠ [] then some (.tup (x ++ y)) else none
  | _, _ => none
section
variable {K : PySem.W.Frag} {H : Hp} {A : Ad}
theorem gI_inv {C : Int → Int → Bool} {f : Int → Int → Int} {a b d : Dt} (h : gI C f a b = some d) : ∃ i j, a = .int i ∧ b = .int j ∧ C i j = true ∧ d = .int (f i j) := by
  cases a <;> cases b <;> try (cases h; done)
  rename_i i j
  obtain ⟨h1, h2⟩ := some_ite h
  exact ⟨i, j, rfl, rfl, h1, h2.symm⟩
theorem gI0_inv {f : Int → Int → Int} {a b d : Dt} (h : gI0 f a b = some d) : ∃ i j, a = .int i ∧ b = .int j ∧ d = .int (f i j) := by
  cases a <;> cases b <;> try (cases h; done)
  rename_i i j
  cases h
  exact ⟨i, j, rfl, rfl, rfl⟩
theorem cI_inv {f : Int → Int → Bool} {a b : Dt} {d : Bool} (h : cI f a b = some d) : ∃ i j, a = .int i ∧ b = .int j ∧ d = f i j := by
  cases a <;> cases b <;> try (cases h; done)
  rename_i i j
  cases h
  exact ⟨i, j, rfl, rfl, rfl⟩
theorem opv_I {C : Int → Int → Bool} {C' : Int → Int → Prop} {f : Int → Int → Int} (hc : ∀ i j, C i j = true → C' i j) : OpV K (rI C' fun i j => .int (f i j)) (gI C f) := by
  intro H A a b d x y Q _ ra rb e q
  obtain ⟨i, j, rfl, rfl, c, rfl⟩ := gI_inv e
  exact ⟨i, j, ra, rb, hc i j c, RE.now q rfl⟩
theorem opv_I0 {f : Int → Int → Int} : OpV K (rI0 fun i j => .int (f i j)) (gI0 f) := by
  intro H A a b d x y Q _ ra rb e q
  obtain ⟨i, j, rfl, rfl, rfl⟩ := gI0_inv e
  exact ⟨i, j, ra, rb, RE.now q rfl⟩
theorem opt_I0 {f : Int → Int → Bool} : OpT K (rI0 fun i j => .bl (f i j)) (cI f) := by
  intro H A a b d x y Q ra rb e q
  obtain ⟨i, j, rfl, rfl, rfl⟩ := cI_inv e
  exact ⟨i, j, ra, rb, q⟩
def rStrAdd : R2 := fun x y H Q => ∃ i j, x = .str i ∧ y = .str j ∧ i.length + j.length ≤ sizeLine ∧ Q (.str (i ++ j)) H
theorem opv_str : OpV K rStrAdd gStrA := by
  intro H A a b d x y Q _ ra rb e q
  cases a <;> cases b <;> try (cases e; done)
  rename_i i j
  obtain ⟨h1, rfl⟩ := some_ite e
  exact ⟨i, j, ra, rb, by rw [sizeLine_eq]; exact h1, RE.now q rfl⟩
theorem opv_lst : OpV K rCat gLstA := by
  intro H A a b d x y Q ha ra rb e q
  cases a <;> cases b <;> try (cases e; done)
  rename_i ds es
  obtain ⟨h1, rfl⟩ := some_ite e
  unfold Rep at ra rb
  obtain ⟨p, vs, rfl, np, hp, rp⟩ := ra
  obtain ⟨p', us, rfl, np', hp', rp'⟩ := rb
  refine ⟨p, p', vs, us, rfl, rfl, hp, hp', by rw [rp.length, rp'.length, sizeLine_eq]; exact h1, fun c hc => q _ _ (Same.new hc) ?_⟩
  unfold Rep
  refine ⟨c, vs ++ us, rfl, fun z => ha c z hc, upd_same, (Reps.append rp rp').same (Same.new hc)⟩
theorem SqT.of' {a : Addr} {vs : List V} (h : (¬ A a ∧ H a = some (.tup vs)) ∨ KTup K a vs) : SqT K H a vs := by
  rcases h with ⟨_, h⟩ | h
  · exact SqT.of h
  · exact .inr h
theorem opv_tup : OpV K (rCatT K) gTupA := by
  intro H A a b d x y Q ha ra rb e q
  cases a <;> cases b <;> try (cases e; done)
  rename_i ds es
  obtain ⟨⟨h1, h2⟩, rfl⟩ := some_ite e
  have ra' := ra
  unfold Rep at ra rb
  obtain ⟨p, vs, rfl, hp, rp⟩ := ra
  obtain ⟨p', us, rfl, hp', rp'⟩ := rb
  have nv : vs ≠ [] := by
    rintro rfl
    have := rp.length
    simp at this
    exact h2 (List.length_eq_zero_iff.mp this.symm)
  refine ⟨p, p', vs, us, rfl, rfl, SqT.of' hp, SqT.of' hp', nv, by rw [rp.length, rp'.length, sizeLine_eq]; exact h1, ?_⟩
  refine ⟨fun hu => ?_, fun _ => ?_⟩
  · subst hu
    have : es = [] := by
      have := rp'.length
      simp at this
      exact List.length_eq_zero_iff.mp this.symm
    subst this
    rw [List.append_nil] at q
    exact RE.now q ra'
  · intro c hc
    refine q _ _ (Same.new hc) ?_
    unfold Rep
    exact ⟨c, vs ++ us, rfl, .inl ⟨fun z => ha c z hc, upd_same⟩, (Reps.append rp rp').same (Same.new hc)⟩
end
section
variable {X : Cx} {pos : Pos} {a b e : Expr} {W : WX} {fa fb fc : Env → Out Dt} {la lb lc : List Nat}
/-! + -/
def gAdd : Dt → Dt → Option Dt := fun a b => (gI0 (· + ·) a b).orElse fun _ => (gStrA a b).orElse fun _ => (gLstA a b).orElse fun _ => gTupA a b
@[simp] theorem gAdd_int (i j : Int) : gAdd (.int i) (.int j) = some (.int (i + j)) := rfl
@[simp] theorem gAdd_str (i j : Str) : gAdd (.str i) (.str j) = if i.length + j.length ≤ 16777216 then some (.str (i ++ j)) else none := by
  show ((if i.length + j.length ≤ 16777216 then some (Dt.str (i ++ j)) else none).orElse fun _ => none) = _
  split <;> rfl
@[simp] theorem gAdd_lst (i j : List Dt) : gAdd (.lst i) (.lst j) = if i.length + j.length ≤ 16777216 then some (.lst (i ++ j)) else none := by
  show ((if i.length + j.length ≤ 16777216 then some (Dt.lst (i ++ j)) else none).orElse fun _ => none) = _
  split <;> rfl
@[simp] theorem gAdd_tup (i j : List Dt) : gAdd (.tup i) (.tup j) = if i.length + j.length ≤ 16777216 ∧ i ≠ [] then some (.tup (i ++ j)) else none := by
  rfl
theorem op_addA : OpR X (binaryOp .Add) (fun x y H Q => rI0 (fun i j => .int (i + j)) x y H Q ∨ (rStrAdd x y H Q ∨ (rCat x y H Q ∨ rCatT X.K x y H Q))) := op_add.or (op_add_str.or (op_cat.or op_catT))
theorem pd_add (ha : PED X W a fa la) (hb : PED X W b fb lb) : PED X W (.BinOp a .Add b pos) (e2 fa fb gAdd) (la ++ lb) := by
  obtain ⟨ta, pa, da⟩ := ha
  obtain ⟨tb, pb, db⟩ := hb
  exact ⟨_, pe_op op_addA pa pb, ted_2 (OpV.or opv_I0 (OpV.or opv_str (OpV.or opv_lst opv_tup))) da db⟩
theorem gI0_scal {f : Int → Int → Int} : ∀ a b d, gI0 f a b = some d → d.scal = true := fun a b d h => by
  obtain ⟨i, j, _, _, rfl⟩ := gI0_inv h
  rfl
theorem gI_scal {C : Int → Int → Bool} {f : Int → Int → Int} : ∀ a b d, gI C f a b = some d → d.scal = true := fun a b d h => by
  obtain ⟨i, j, _, _, _, rfl⟩ := gI_inv h
  rfl
theorem pd_sub (ha : PED X W a fa la) (hb : PED X W b fb lb) : PED X W (.BinOp a .Sub b pos) (e2 fa fb (gI0 (· - ·))) [] := by
  obtain ⟨ta, pa, da⟩ := ha
  obtain ⟨tb, pb, db⟩ := hb
  exact ⟨_, pe_op op_sub pa pb, ted_2s opv_I0 gI0_scal da db⟩
/-- the size of a product -/
def mulB (i j : Int) : Bool := decide (i.natAbs.log2 + j.natAbs.log2 < 1000000)
theorem pd_mul (ha : PED X W a fa la) (hb : PED X W b fb lb) : PED X W (.BinOp a .Mult b pos) (e2 fa fb (gI mulB (· * ·))) [] := by
  obtain ⟨ta, pa, da⟩ := ha
  obtain ⟨tb, pb, db⟩ := hb
  exact ⟨_, pe_op op_mulW pa pb, ted_2s (opv_I fun i j h => (show i.natAbs.log2 + j.natAbs.log2 < 1000000 from of_decide_eq_true h)) gI_scal da db⟩
/-- // by any divisor that is not nought, below 2 ^ 9000 -/
def divB (_ j : Int) : Bool := decide (j ≠ 0 ∧ j.natAbs.log2 < 9000)
theorem op_fdivG : OpR X (binaryOp .FloorDiv) (rI (fun _ j => j ≠ 0 ∧ j.natAbs.log2 < 9000) fun i j => .int (i.fdiv j)) :=
  opI fun i j _ _ _ _ _ hc q => PyProof.Rows.floordiv_int hc.1 q (.inl (PyProof.noPylong_of_log2 hc.2))
theorem pd_fdiv (ha : PED X W a fa la) (hb : PED X W b fb lb) : PED X W (.BinOp a .FloorDiv b pos) (e2 fa fb (gI divB Int.fdiv)) [] := by
  obtain ⟨ta, pa, da⟩ := ha
  obtain ⟨tb, pb, db⟩ := hb
  exact ⟨_, pe_op op_fdivG pa pb, ted_2s (opv_I fun i j h => of_decide_eq_true h) gI_scal da db⟩
def nzB (_ j : Int) : Bool := decide (j ≠ 0)
theorem pd_mod (ha : PED X W a fa la) (hb : PED X W b fb lb) : PED X W (.BinOp a .Mod b pos) (e2 fa fb (gI nzB Int.fmod)) [] := by
  obtain ⟨ta, pa, da⟩ := ha
  obtain ⟨tb, pb, db⟩ := hb
  exact ⟨_, pe_op op_modN pa pb, ted_2s (opv_I fun i j h => of_decide_eq_true h) gI_scal da db⟩
def powB (i j : Int) : Bool := decide (0 ≤ j ∧ j ≤ 1000000 ∧ i.natAbs < 2 ^ 64)
theorem pd_pow (ha : PED X W a fa la) (hb : PED X W b fb lb) : PED X W (.BinOp a .Pow b pos) (e2 fa fb (gI powB fun i j => i ^ j.toNat)) [] := by
  obtain ⟨ta, pa, da⟩ := ha
  obtain ⟨tb, pb, db⟩ := hb
  exact ⟨_, pe_op op_pow pa pb, ted_2s (opv_I fun i j h => (show 0 ≤ j ∧ j ≤ 1000000 ∧ i.natAbs < 2 ^ 64 from of_decide_eq_true h)) gI_scal da db⟩
def gNeg : Dt → Option Dt
  | .int i => some (.int (-i))
  | _ => none
@[simp] theorem gNeg_int (i : Int) : gNeg (.int i) = some (.int (-i)) := rfl
theorem pd_neg (ha : PED X W a fa la) : PED X W (.UnaryOp .USub a pos) (e1 fa gNeg) la := by
  obtain ⟨ta, pa, da⟩ := ha
  refine ⟨_, pe_un un_neg pa, ted_1 ?_ da⟩
  intro H A d e x Q _ r h q
  cases d <;> try (cases h; done)
  cases h
  exact ⟨_, r, RE.now q rfl⟩
/-! names and constants -/
theorem pd_var (i : Nat) {x : Str} {p : Pos} (hN : X.N[i]? = some x := by rfl) (hv : Vis X.env.scope x := by first | exact Or.inl rfl | exact Or.inr (Or.inl rfl) | exact Or.inr (Or.inr rfl)) (hd : (x == ("__debug__" : Str)) = false := by decide)
    (hcd : (x == ("__classdict__" : Str)) = false := by decide) : PED X W (.Name x p) (eVar i) [i] := ⟨_, pe_var hN hv hd hcd, ted_var i⟩
theorem pd_int {i : Int} {j p} : PED X W (.Constant (.int i) j p) (eC (.int i)) [] := ⟨_, pe_int, ted_c fun _ _ => rfl⟩
theorem pd_bl {i : Bool} {j p} : PED X W (.Constant (.bool i) j p) (eC (.bl i)) [] := ⟨_, pe_bl, ted_c fun _ _ => rfl⟩
theorem pd_non {j p} : PED X W (.Constant .none j p) (eC .non) [] := ⟨_, pe_non, ted_c fun _ _ => rfl⟩
theorem pd_str {s : Str} {j p} : PED X W (.Constant (.str s) j p) (eC (.str s)) [] := ⟨_, pe_str, ted_c fun _ _ => rfl⟩
/-- a module's name: a number, a text, a class -/
theorem pd_glob {x : Str} {v : V} {d : Dt} {p : Pos} (hg : Gl X x) (hm : ∃ u, X.mg x = some u ∧ RelV v u) (hr : ∀ H A, Rep X.K H A d v) (hd : (x == ("__debug__" : Str)) = false := by decide) : PED X W (.Name x p) (eC d) [] := by
  obtain ⟨u, h1, h2⟩ := hm
  exact ⟨_, pe_glob hg h1 h2 hd, ted_c hr⟩
theorem pd_type {x : Str} {n : String} {p : Pos} (hg : Gl X x) (hm : X.mg x = none) (hv : bootBuiltins x = some (.type n)) (hn : x ≠ "__name__" := by decide) (hd : (x == ("__debug__" : Str)) = false := by decide) : PED X W (.Name x p) (eC (.ty n)) [] :=
  ⟨_, pe_bltn hg hm hv (show RelV (V.ty n) _ from rfl) hn hd, ted_c fun _ _ => rfl⟩
/-! comparisons -/
end
mutual
def Dt.py : Dt → Option PyData
  | .non => some .none
  | .bl b => some (.bool b)
  | .int i => some (.int i)
  | .str s => some (.str s)
  | .tup ds => (Dt.pys ds).map .tuple
  | .lst ds => (Dt.pys ds).map .list
  | _ => none
def Dt.pys : List Dt → Option (List PyData)
  | [] => some []
  | d :: ds => (Dt.py d).bind fun p => (Dt.pys ds).map fun q => p :: q
end
mutual
theorem Rep.dp {K : PySem.W.Frag} {H : Hp} {A : Ad} : ∀ (d : Dt) (v : V) (p : PyData), d.py = some p → Rep K H A d v → Dp K H v p
  | .non, v, p, e, r => by
    have e' : v = .non := r
    subst e'
    unfold Dt.py at e
    cases e
    exact .non
  | .bl b, v, p, e, r => by
    have e' : v = .bl b := r
    subst e'
    unfold Dt.py at e
    cases e
    exact .bl b
  | .int b, v, p, e, r => by
    have e' : v = .int b := r
    subst e'
    unfold Dt.py at e
    cases e
    exact .int b
  | .str b, v, p, e, r => by
    have e' : v = .str b := r
    subst e'
    unfold Dt.py at e
    cases e
    exact .str b
  | .ty _, _, _, e, _ => by simp [Dt.py] at e
  | .cls _, _, _, e, _ => by simp [Dt.py] at e
  | .fls _, _, _, e, _ => by simp [Dt.py] at e
  | .dic _ _, _, _, e, _ => by simp [Dt.py] at e
  | .obj _ _ _, _, _, e, _ => by simp [Dt.py] at e
  | .exn _ _ _ _ _, _, _, e, _ => by simp [Dt.py] at e
  | .tup ds, v, p, e, r => by
    unfold Dt.py at e
    cases ep : Dt.pys ds with
    | none => rw [ep] at e; cases e
    | some ps =>
      rw [ep] at e
      cases e
      unfold Rep at r
      obtain ⟨a, vs, rfl, h, hr⟩ := r
      exact .tup (SqT.of' h) (Reps.dps ds vs ps ep hr)
  | .lst ds, v, p, e, r => by
    unfold Dt.py at e
    cases ep : Dt.pys ds with
    | none => rw [ep] at e; cases e
    | some ps =>
      rw [ep] at e
      cases e
      unfold Rep at r
      obtain ⟨a, vs, rfl, _, h, hr⟩ := r
      exact .lst (SqL.of h) (Reps.dps ds vs ps ep hr)
theorem Reps.dps {K : PySem.W.Frag} {H : Hp} {A : Ad} : ∀ (ds : List Dt) (vs : List V) (ps : List PyData), Dt.pys ds = some ps → Reps K H A ds vs → DpAll K H vs ps
  | [], vs, ps, e, r => by
    unfold Dt.pys at e
    unfold Reps at r
    cases e
    subst r
    exact .nil
  | d :: ds, vs, ps, e, r => by
    unfold Dt.pys at e
    unfold Reps at r
    obtain ⟨v, t, rfl, h1, h2⟩ := r
    cases e1 : Dt.py d with
    | none => rw [e1] at e; cases e
    | some p =>
      cases e2 : Dt.pys ds with
      | none => rw [e1, e2] at e; cases e
      | some qs =>
        rw [e1, e2] at e
        cases e
        exact .cons (Rep.dp d v p e1 h1) (Reps.dps ds t qs e2 h2)
end
def eqS : Dt → Dt → Option Bool
  | .int i, .int j => some (i == j)
  | .str i, .str j => some (i == j)
  | .bl i, .bl j => some (i == j)
  | .non, .non => some true
  | _, _ => none
def eqP (a b : Dt) : Option Bool := a.py.bind fun p => b.py.bind fun q => if SeqAt.shaped p = true ∧ SeqAt.shaped q = true then some (PyData.eqv p q) else none
def eqD (a b : Dt) : Option Bool := (eqS a b).orElse fun _ => eqP a b
@[simp] theorem eqD_int (i j : Int) : eqD (.int i) (.int j) = some (i == j) := rfl
@[simp] theorem eqD_str (i j : Str) : eqD (.str i) (.str j) = some (i == j) := rfl
@[simp] theorem eqD_bl (i j : Bool) : eqD (.bl i) (.bl j) = some (i == j) := rfl
@[simp] theorem eqD_non : eqD .non .non = some true := rfl
section
variable {K : PySem.W.Frag}
theorem opt_eqS : OpT K rEq eqS := by
  intro H A a b d x y Q ra rb e q
  cases a <;> cases b <;> try (cases e; done)
  · have e1 : x = .non := ra
    have e2 : y = .non := rb
    subst e1 e2
    cases e
    exact ⟨rfl, q⟩
  · rename_i i j
    have e1 : x = .bl i := ra
    have e2 : y = .bl j := rb
    subst e1 e2
    cases e
    exact ⟨rfl, by rw [dec_bl]; exact q⟩
  · rename_i i j
    have e1 : x = .int i := ra
    have e2 : y = .int j := rb
    subst e1 e2
    cases e
    exact ⟨rfl, by rw [dec_int]; exact q⟩
  · rename_i i j
    have e1 : x = .str i := ra
    have e2 : y = .str j := rb
    subst e1 e2
    cases e
    exact ⟨rfl, by rw [dec_str]; exact q⟩
theorem eqP_inv {a b : Dt} {d : Bool} (h : eqP a b = some d) : ∃ p q, a.py = some p ∧ b.py = some q ∧ SeqAt.shaped p = true ∧ SeqAt.shaped q = true ∧ d = PyData.eqv p q := by
  unfold eqP at h
  cases e1 : a.py with
  | none => rw [e1] at h; cases h
  | some p =>
    cases e2 : b.py with
    | none => rw [e1, e2] at h; cases h
    | some q =>
      rw [e1, e2] at h
      obtain ⟨⟨h1, h2⟩, h3⟩ := some_ite h
      exact ⟨p, q, rfl, rfl, h1, h2, h3.symm⟩
theorem opt_eqP : OpT K (rEqD K) eqP := by
  intro H A a b d x y Q ra rb e q
  obtain ⟨p, p', h1, h2, h3, h4, rfl⟩ := eqP_inv e
  exact ⟨p, p', Rep.dp a x p h1 ra, Rep.dp b y p' h2 rb, h3, h4, q⟩
def neg2 (g : Dt → Dt → Option Bool) : Dt → Dt → Option Bool := fun a b => (g a b).map fun x => !x
@[simp] theorem neg2_eq (g : Dt → Dt → Option Bool) (a b : Dt) : neg2 g a b = (g a b).map fun x => !x := rfl
theorem opt_neS : OpT K rNe (neg2 eqS) := by
  intro H A a b d x y Q ra rb e q
  cases a <;> cases b <;> try (cases e; done)
  · have e1 : x = .non := ra
    have e2 : y = .non := rb
    subst e1 e2
    cases e
    exact ⟨rfl, q⟩
  · rename_i i j
    have e1 : x = .bl i := ra
    have e2 : y = .bl j := rb
    subst e1 e2
    cases e
    exact ⟨rfl, by rw [dec_bl]; exact q⟩
  · rename_i i j
    have e1 : x = .int i := ra
    have e2 : y = .int j := rb
    subst e1 e2
    cases e
    exact ⟨rfl, by rw [dec_int]; exact q⟩
  · rename_i i j
    have e1 : x = .str i := ra
    have e2 : y = .str j := rb
    subst e1 e2
    cases e
    exact ⟨rfl, by rw [dec_str]; exact q⟩
theorem opt_neP : OpT K (rNeD K) (neg2 eqP) := by
  intro H A a b d x y Q ra rb e q
  cases e1 : eqP a b with
  | none => simp [neg2, e1] at e
  | some d' =>
    simp only [neg2, e1, Option.map_some, Option.some.injEq] at e
    subst e
    obtain ⟨p, p', h1, h2, h3, h4, rfl⟩ := eqP_inv e1
    exact ⟨p, p', Rep.dp a x p h1 ra, Rep.dp b y p' h2 rb, h3, h4, q⟩
def isN : Dt → Dt → Option Bool
  | .non, .non => some true
  | _, .non => some false
  | _, _ => none
theorem opt_isN : OpT K (fun x y H Q => y = .non ∧ Q (.bl (decide (x = .non))) H) isN := by
  intro H A a b d x y Q ra rb e q
  cases b <;> try (cases a <;> cases e; done)
  have e2 : y = .non := rb
  refine ⟨e2, ?_⟩
  have hd : decide (x = V.non) = d := by
    cases a with
    | non => cases e; have e1 : x = .non := ra; subst e1; rfl
    | bl i => cases e; have e1 : x = .bl i := ra; subst e1; rfl
    | int i => cases e; have e1 : x = .int i := ra; subst e1; rfl
    | str i => cases e; have e1 : x = .str i := ra; subst e1; rfl
    | ty i => cases e; have e1 : x = .ty i := ra; subst e1; rfl
    | cls i => cases e; have e1 : x = .ref i := ra; subst e1; rfl
    | tup ds => cases e; unfold Rep at ra; obtain ⟨a, vs, rfl, _⟩ := ra; rfl
    | lst ds => cases e; unfold Rep at ra; obtain ⟨a, vs, rfl, _⟩ := ra; rfl
    | fls ds => cases e; unfold Rep at ra; obtain ⟨a, vs, rfl, _⟩ := ra; rfl
    | dic ks ds => cases e; unfold Rep at ra; obtain ⟨a, vs, rfl, _⟩ := ra; rfl
    | obj C ns ds => cases e; unfold Rep at ra; obtain ⟨a, dx, fs, rfl, _⟩ := ra; rfl
    | exn a od C ns ds => cases e; unfold Rep at ra; obtain ⟨fs, rfl, _⟩ := ra; rfl
  rw [hd]
  exact q
theorem opt_notN : OpT K (fun x y H Q => y = .non ∧ Q (.bl (!decide (x = .non))) H) (neg2 isN) := by
  intro H A a b d x y Q ra rb e q
  cases e1 : isN a b with
  | none => simp [neg2, e1] at e
  | some d' =>
    simp only [neg2, e1, Option.map_some, Option.some.injEq] at e
    subst e
    obtain ⟨h1, h2⟩ := opt_isN (K := K) (Q := fun v _ => v = .bl d') H A a b d' x y ra rb e1 rfl
    refine ⟨h1, ?_⟩
    have h3 : decide (x = V.non) = d' := by
      injection h2
    rw [h3]
    exact q
end
section
variable {X : Cx} {pos : Pos} {a b c e : Expr} {W : WX} {fa fb fc : Env → Out Dt} {la lb lc : List Nat} {rest : List Expr} {ft fu : Env → Out Bool}
/-- a comparison: as a test, as a value -/
theorem pt_of {op : CmpOp} {r : R2} {g : Dt → Dt → Option Bool} (ho : OpR X (compareOp op) r) (hg : OpT X.K r g) (ha : PED X W a fa la) (hb : PED X W b fb lb) (hm : behindInMarks op b = false) : PTD X W (.Compare a [op] [b] pos) (t2 fa fb g) [] := by
  obtain ⟨ta, pa, da⟩ := ha
  obtain ⟨tb, pb, db⟩ := hb
  exact ⟨_, pt_cmpR ho pa pb hm, ttd_2 hg da db⟩
theorem pd_of {op : CmpOp} {r : R2} {g : Dt → Dt → Option Bool} (ho : OpR X (compareOp op) r) (hg : OpT X.K r g) (ha : PED X W a fa la) (hb : PED X W b fb lb) (hm : behindInMarks op b = false) : PED X W (.Compare a [op] [b] pos) (eT (t2 fa fb g)) [] := by
  obtain ⟨ta, pa, da⟩ := ha
  obtain ⟨tb, pb, db⟩ := hb
  exact ⟨_, pe_cmpR ho pa pb hm, ted_cmp hg da db⟩
/-- a kind of comparison -/
structure Cmp (X : Cx) (op : CmpOp) (g : Dt → Dt → Option Bool) : Prop where
  ex : ∃ r, OpR X (compareOp op) r ∧ OpT X.K r g
theorem cm_lt : Cmp X .Lt (cI fun i j => decide (i < j)) := ⟨_, op_lt, opt_I0⟩
theorem cm_le : Cmp X .LtE (cI fun i j => decide (i ≤ j)) := ⟨_, op_le, opt_I0⟩
theorem cm_gt : Cmp X .Gt (cI fun i j => decide (j < i)) := ⟨_, op_gt, opt_I0⟩
theorem cm_ge : Cmp X .GtE (cI fun i j => decide (j ≤ i)) := ⟨_, op_ge, opt_I0⟩
theorem cm_eq (hu : X.A.units + 64 < cLine) : Cmp X .Eq eqD := ⟨_, op_eq.or (op_eqD hu), OpT.or opt_eqS opt_eqP⟩
def neD (a b : Dt) : Option Bool := (neg2 eqS a b).orElse fun _ => neg2 eqP a b
theorem neD_eq (a b : Dt) : neD a b = neg2 eqD a b := by
  show ((eqS a b).map (fun x => !x)).orElse (fun _ => (eqP a b).map fun x => !x) = ((eqS a b).orElse fun _ => eqP a b).map fun x => !x
  cases eqS a b <;> rfl
theorem cm_ne (hu : X.A.units + 64 < cLine) : Cmp X .NotEq neD := ⟨_, op_ne.or (op_neD hu), OpT.or opt_neS opt_neP⟩
theorem cm_isN : Cmp X .Is isN := ⟨_, op_isN, opt_isN⟩
theorem cm_notN : Cmp X .IsNot (neg2 isN) := ⟨_, op_notN, opt_notN⟩
theorem pt_c {op : CmpOp} {g : Dt → Dt → Option Bool} (h : Cmp X op g) (ha : PED X W a fa la) (hb : PED X W b fb lb) (hm : behindInMarks op b = false := by first | exact nomark _ | rfl) : PTD X W (.Compare a [op] [b] pos) (t2 fa fb g) [] := by
  obtain ⟨r, h1, h2⟩ := h.ex
  exact pt_of h1 h2 ha hb hm
theorem pd_c {op : CmpOp} {g : Dt → Dt → Option Bool} (h : Cmp X op g) (ha : PED X W a fa la) (hb : PED X W b fb lb) (hm : behindInMarks op b = false := by first | exact nomark _ | rfl) : PED X W (.Compare a [op] [b] pos) (eT (t2 fa fb g)) [] := by
  obtain ⟨r, h1, h2⟩ := h.ex
  exact pd_of h1 h2 ha hb hm
/-- a < b < c -/
def eChain (fa fb fc : Env → Out Dt) (g g' : Dt → Dt → Option Bool) : Env → Out Bool := fun ρ => (fa ρ).bind fun a => (fb ρ).bind fun b => (ofO (g a b)).bind fun k => if k = true then (fc ρ).bind fun c => ofO (g' b c) else .ok false
theorem pd_chain {op op' : CmpOp} {g g' : Dt → Dt → Option Bool} (h : Cmp X op g) (h' : Cmp X op' g') (ha : PED X W a fa la) (hb : PED X W b fb lb) (hc : PED X W c fc lc) (hm : lastMarks [op, op'] [b, c] = false := by with_unfolding_all rfl) : PED X W (.Compare a [op, op'] [b, c] pos) (eT (eChain fa fb fc g g')) [] := by
  obtain ⟨r, h1, h2⟩ := h.ex
  obtain ⟨r', h1', h2'⟩ := h'.ex
  obtain ⟨ta, pa, da⟩ := ha
  obtain ⟨tb, pb, db⟩ := hb
  obtain ⟨tc, pc, dc⟩ := hc
  refine ⟨_, pe_chain h1 h1' pa pb pc (hm := hm), ?_⟩
  intro H0 A0 ρ σ H Q s h
  unfold eT eChain at h
  rw [Out.bind_assoc] at h
  refine da _ _ _ _ _ _ s (h.seq fun a _ h1 v1 H1 s1 r1 => ?_)
  rw [Out.bind_assoc] at h1
  refine db _ _ _ _ _ _ (s.grow s1) ((h1.grow s1).seq fun b _ h3 v2 H2 s2 r2 => ?_)
  have sg := s.grow (s1.trans s2)
  rw [Out.bind_assoc] at h3
  cases e : g a b with
  | none =>
    rw [e] at h3
    exact False.elim h3
  | some k =>
    rw [e] at h3
    refine h2 H2 NoA a b k v1 v2 _ (r1.same s2).noA r2.noA e ⟨k, rfl, ?_⟩
    cases k with
    | false => exact h3 (.bl false) H2 (s1.trans s2) rfl
    | true =>
      simp only [ofO_some, Out.bind_ok, if_true] at h3
      rw [if_pos rfl]
      rw [Out.bind_assoc] at h3
      refine dc _ _ _ _ _ _ sg ((h3.grow s2).seq fun c _ h4 v3 H3 s3 r3 => ?_)
      cases e' : g' b c with
      | none =>
        rw [e'] at h4
        exact False.elim h4
      | some k' =>
        rw [e'] at h4
        exact h2' H3 NoA b c k' v2 v3 _ (r2.same s3).noA r3.noA e' (h4 (.bl k') H3 ((s1.trans s2).trans s3) rfl)
/-! and, or, not: tests -/
theorem pw_and1D (ha : PTD X W a ft la) : PWD X W (.BoolOp .And [a] pos) ft la := by
  obtain ⟨ta, pa, da⟩ := ha
  exact ⟨_, pw_and1 pa, da⟩
theorem pw_or1D (ha : PTD X W a ft la) : PWD X W (.BoolOp .Or [a] pos) ft la := by
  obtain ⟨ta, pa, da⟩ := ha
  exact ⟨_, pw_or1 pa, da⟩
theorem pw_andD (ha : PTD X W a ft la) (hb : PWD X W (.BoolOp .And (b :: rest) pos) fu lb) : PWD X W (.BoolOp .And (a :: b :: rest) pos) (tAndD ft fu) [] := by
  obtain ⟨ta, pa, da⟩ := ha
  obtain ⟨tb, pb, db⟩ := hb
  exact ⟨_, pw_and pa pb, ttd_and da db⟩
theorem pw_orD (ha : PTD X W a ft la) (hb : PWD X W (.BoolOp .Or (b :: rest) pos) fu lb) : PWD X W (.BoolOp .Or (a :: b :: rest) pos) (tOrD ft fu) [] := by
  obtain ⟨ta, pa, da⟩ := ha
  obtain ⟨tb, pb, db⟩ := hb
  exact ⟨_, pw_or pa pb, ttd_or da db⟩
theorem ptw (ha : PWD X W e ft la) : PTD X W e ft la := by
  obtain ⟨ta, pa, da⟩ := ha
  exact ⟨_, pa.pt, da⟩
theorem pt_notD (ha : PTD X W a ft la) : PTD X W (.UnaryOp .Not a pos) (tNotD ft) [] := by
  obtain ⟨ta, pa, da⟩ := ha
  exact ⟨_, pt_not pa, ttd_not da⟩
/-! .. as values, all of them True or False -/
def blD : Dt → Option Bool
  | .bl b => some b
  | _ => none
@[simp] theorem blD_bl (b : Bool) : blD (.bl b) = some b := rfl
def eAnd (f g : Env → Out Dt) : Env → Out Dt := fun ρ => (f ρ).bind fun a => (ofO (blD a)).bind fun b => if b = true then g ρ else .ok (.bl false)
def eOr (f g : Env → Out Dt) : Env → Out Dt := fun ρ => (f ρ).bind fun a => (ofO (blD a)).bind fun b => if b = true then .ok (.bl true) else g ρ
def eNot (f : Env → Out Dt) : Env → Out Dt := fun ρ => (f ρ).bind fun a => (ofO (blD a)).bind fun b => .ok (.bl (!b))
theorem blD_inv {a : Dt} {b : Bool} (h : blD a = some b) : a = .bl b := by
  cases a <;> try (cases h; done)
  cases h
  rfl
theorem pd_one {op : BoolOp} (ha : PED X W a fa la) : PED X W (.BoolOp op [a] pos) fa la := by
  obtain ⟨ta, pa, da⟩ := ha
  exact ⟨_, pe_one pa, da⟩
theorem bl_seq {K : PySem.W.Frag} {H : Hp} {σ : L2.St} {a : Dt} {k : Bool → Out Dt} {R : Dt → Prop} (h : PostX K W H σ ((ofO (blD a)).bind k) R) : ∃ b, a = .bl b ∧ PostX K W H σ (k b) R := by
  cases e : blD a with
  | none => rw [e] at h; exact False.elim h
  | some b => rw [e] at h; exact ⟨b, blD_inv e, h⟩
theorem pd_and (ha : PED X W a fa la) (hb : PED X W (.BoolOp .And (b :: rest) pos) fb lb) : PED X W (.BoolOp .And (a :: b :: rest) pos) (eAnd fa fb) lb := by
  obtain ⟨ta, pa, da⟩ := ha
  obtain ⟨tb, pb, db⟩ := hb
  refine ⟨_, pe_and pa pb, ?_⟩
  intro H0 A0 ρ σ H Q s h
  refine da _ _ _ _ _ _ s (h.seq fun a _ h1 v1 H1 s1 r1 => ?_)
  obtain ⟨b, rfl, h2⟩ := bl_seq h1
  refine ⟨b, r1, ?_⟩
  cases b with
  | true => exact db _ _ _ _ _ _ (s.grow s1) ((h2.grow s1).imp fun d _ q => RE.grow s1 q)
  | false => exact h2 _ H1 s1 rfl
theorem pd_or (ha : PED X W a fa la) (hb : PED X W (.BoolOp .Or (b :: rest) pos) fb lb) : PED X W (.BoolOp .Or (a :: b :: rest) pos) (eOr fa fb) lb := by
  obtain ⟨ta, pa, da⟩ := ha
  obtain ⟨tb, pb, db⟩ := hb
  refine ⟨_, pe_or pa pb, ?_⟩
  intro H0 A0 ρ σ H Q s h
  refine da _ _ _ _ _ _ s (h.seq fun a _ h1 v1 H1 s1 r1 => ?_)
  obtain ⟨b, rfl, h2⟩ := bl_seq h1
  refine ⟨b, r1, ?_⟩
  cases b with
  | false => exact db _ _ _ _ _ _ (s.grow s1) ((h2.grow s1).imp fun d _ q => RE.grow s1 q)
  | true => exact h2 _ H1 s1 rfl
theorem pd_not (ha : PED X W a fa la) : PED X W (.UnaryOp .Not a pos) (eNot fa) [] := by
  obtain ⟨ta, pa, da⟩ := ha
  refine ⟨_, pe_not pa, ?_⟩
  intro H0 A0 ρ σ H Q s h
  refine da _ _ _ _ _ _ s (h.seq fun a _ h1 v1 H1 s1 r1 => ?_)
  obtain ⟨b, rfl, h2⟩ := bl_seq h1
  exact ⟨b, r1, h2 _ H1 s1 rfl⟩
/-! a value as a test -/
def truD : Dt → Option Bool
  | .non => some false
  | .bl b => some b
  | .int i => some (i != 0)
  | .str s => if s.length ≤ 16777216 then some ((s.length : Int) != 0) else none
  | .tup ds => some (!ds.isEmpty)
  | .lst ds => some (!ds.isEmpty)
  | .fls ds => some (!ds.isEmpty)
  | .dic ks _ => some (!ks.isEmpty)
  | _ => none
@[simp] theorem truD_non : truD .non = some false := rfl
@[simp] theorem truD_bl (b : Bool) : truD (.bl b) = some b := rfl
@[simp] theorem truD_int (b : Int) : truD (.int b) = some (b != 0) := rfl
@[simp] theorem truD_tup (b : List Dt) : truD (.tup b) = some (!b.isEmpty) := rfl
@[simp] theorem truD_lst (b : List Dt) : truD (.lst b) = some (!b.isEmpty) := rfl
@[simp] theorem truD_fls (b : List Dt) : truD (.fls b) = some (!b.isEmpty) := rfl
@[simp] theorem truD_dic (b : List Key) (c : List Dt) : truD (.dic b c) = some (!b.isEmpty) := rfl
theorem isEmpty_len {α β : Type} {xs : List α} {ys : List β} (h : xs.length = ys.length) : xs.isEmpty = ys.isEmpty := by
  cases xs <;> cases ys <;> first | rfl | (simp at h)
theorem truV_of {K : PySem.W.Frag} {H : Hp} {A : Ad} {d : Dt} {v : V} {k : Bool} (r : Rep K H A d v) (h : truD d = some k) : TruV K v H k := by
  cases d with
  | non => have e : v = .non := r; subst e; cases h; rfl
  | bl b => have e : v = .bl b := r; subst e; cases h; rfl
  | int i => have e : v = .int i := r; subst e; cases h; rfl
  | str s =>
    have e : v = .str s := r
    subst e
    obtain ⟨h1, rfl⟩ := some_ite h
    exact ⟨by rw [sizeLine_eq]; exact h1, rfl⟩
  | ty _ => cases h
  | cls _ => cases h
  | obj _ _ _ => cases h
  | exn _ _ _ _ _ => cases h
  | tup ds =>
    unfold Rep at r
    obtain ⟨a, vs, rfl, h1, h2⟩ := r
    cases h
    exact .inr (.inl ⟨vs, SqT.of' h1, by rw [isEmpty_len h2.length]⟩)
  | lst ds =>
    unfold Rep at r
    obtain ⟨a, vs, rfl, _, h1, h2⟩ := r
    cases h
    exact .inl ⟨vs, SqL.of h1, by rw [isEmpty_len h2.length]⟩
  | fls ds =>
    unfold Rep at r
    obtain ⟨a, vs, rfl, h1, h2⟩ := r
    cases h
    refine .inl ⟨vs, ?_, by rw [isEmpty_len h2.length]⟩
    rcases h1 with ⟨_, o, h1⟩ | h1
    · exact .inl (.inr ⟨o, h1⟩)
    · exact .inr h1
  | dic ks ds =>
    unfold Rep at r
    obtain ⟨a, kvs, rfl, _, h1, h2, h3⟩ := r
    cases h
    refine .inr (.inr ⟨kvs, h1, ?_⟩)
    rw [← h2]
    cases kvs <;> rfl
theorem pt_v (ha : PED X W a fa la) (he : ∀ whole, isTrue a X.env whole = (do let v ← whole; standAt a.pos; holding [v] (truthy v)) := by intro _; rfl) : PTD X W a (t1 fa truD) [] := by
  obtain ⟨ta, pa, da⟩ := ha
  refine ⟨_, pt_truth pa he, ?_⟩
  intro H0 A0 ρ σ H Q s h
  refine da _ _ _ _ _ _ s (h.seq fun a _ h1 v1 H1 s1 r1 => ?_)
  obtain ⟨k, e, q⟩ := ofO_seq h1
  exact ⟨k, truV_of r1 e, q H1 s1⟩
theorem pd_ifD (hc : PTD X W c ft lc) (ha : PED X W a fa la) (hb : PED X W b fb lb) : PED X W (.IfExp c a b pos) (eIfD ft fa fb) (la ++ lb) := by
  obtain ⟨tc, pc, dc⟩ := hc
  obtain ⟨ta, pa, da⟩ := ha
  obtain ⟨tb, pb, db⟩ := hb
  exact ⟨_, pe_ifExp pc pa pb, ted_if dc da db⟩
/-! displays -/
variable {es : List Expr} {fs : Env → Out (List Dt)} {ls : List Nat}
theorem pa_nilD : PAD X W [] aNil [] := ⟨_, pa_nil, tad_nil⟩
theorem pa_consD (ha : PED X W e fa la) (hr : PAD X W es fs lb) (hs : starEach (e :: es) X.env = (false, eval e X.env) :: starEach es X.env := by rfl) : PAD X W (e :: es) (aCons fa fs) (la ++ lb) := by
  obtain ⟨ta, pa, da⟩ := ha
  obtain ⟨tr, pr, dr⟩ := hr
  exact ⟨_, pa_cons pa pr hs, tad_cons da dr⟩
theorem pd_tup {k} (h : PAD X W es fs ls) : PED X W (.Tuple es k pos) (eTup fs) ls := by
  obtain ⟨ta, pa, da⟩ := h
  exact ⟨_, pe_tup pa, ted_tup da⟩
theorem pl_lst (h : PAD X W es fs ls) : PLD X W (.List es pos) (lLst fs) ls := by
  obtain ⟨ta, pa, da⟩ := h
  exact ⟨_, pe_lst pa, tld_lst da⟩
theorem pd_l (h : PLD X W e fs ls) : PED X W e (eL fs) ls := by
  obtain ⟨ta, pa, da⟩ := h
  exact ⟨_, pa, ted_l da⟩
end
end FD

namespace FD
open PySem L2
/-! ### statements -/
inductive Fl where
  | nx | bk | ct | rt (d : Dt)
inductive SOut where
  | ok (f : Fl) (ρ : Env) | exc (x : Exn) (ρ : Env) | bad
def stE {α : Type} (o : Out α) (ρ : Env) (k : α → SOut) : SOut := match o with
  | .ok a => k a
  | .exc x => .exc x ρ
  | .bad => .bad
@[simp] theorem stE_ok {α : Type} (a : α) (ρ : Env) (k : α → SOut) : stE (.ok a) ρ k = k a := rfl
@[simp] theorem stE_exc {α : Type} (x : Exn) (ρ : Env) (k : α → SOut) : stE (.exc x) ρ k = .exc x ρ := rfl
@[simp] theorem stE_bad {α : Type} (ρ : Env) (k : α → SOut) : stE .bad ρ k = .bad := rfl
def PostS (K : PySem.W.Frag) (W : WX) (H0 : Hp) (A0 : Ad) (o : SOut) (D : Ends) : Prop := match o with
  | .ok .nx ρ => ∀ σ H, StOk K H0 A0 H ρ σ → D.nx σ H
  | .ok .bk ρ => ∀ σ H, StOk K H0 A0 H ρ σ → D.bk σ H
  | .ok .ct ρ => ∀ σ H, StOk K H0 A0 H ρ σ → D.ct σ H
  | .ok (.rt d) _ => ∀ v H, Same H0 H → Rep K H A0 d v → D.rt v H
  | .exc x ρ => ∀ σ H c od, StOk K H0 A0 H ρ σ → ExOk K H x c od → W c od σ H
  | .bad => False
def TSD (K : PySem.W.Frag) (W : WX) (ts : TS) (g : Env → SOut) : Prop :=
  ∀ (H0 : Hp) (A0 : Ad) (ρ : Env) (σ : L2.St) (H : Hp) (D : Ends), StOk K H0 A0 H ρ σ → PostS K W H0 A0 (g ρ) D → ts D σ H
def PSD (X : Cx) (W : WX) (st : Stmt) (g : Env → SOut) : Prop := ∃ ts, PS X st ts ∧ TSD X.K W ts g
def PSsD (X : Cx) (W : WX) (st : List Stmt) (g : Env → SOut) : Prop := ∃ ts, PSs X st ts ∧ TSD X.K W ts g

/-! meanings -/
def sNext : Env → SOut := fun ρ => .ok .nx ρ
def sBrk : Env → SOut := fun ρ => .ok .bk ρ
def sCont : Env → SOut := fun ρ => .ok .ct ρ
def SOut.andThen (o : SOut) (g : Env → SOut) : SOut := match o with
  | .ok .nx ρ => g ρ
  | o => o
@[simp] theorem andThen_nx (ρ : Env) (g : Env → SOut) : (SOut.ok .nx ρ).andThen g = g ρ := rfl
@[simp] theorem andThen_bk (ρ : Env) (g : Env → SOut) : (SOut.ok .bk ρ).andThen g = .ok .bk ρ := rfl
@[simp] theorem andThen_ct (ρ : Env) (g : Env → SOut) : (SOut.ok .ct ρ).andThen g = .ok .ct ρ := rfl
@[simp] theorem andThen_rt (d : Dt) (ρ : Env) (g : Env → SOut) : (SOut.ok (.rt d) ρ).andThen g = .ok (.rt d) ρ := rfl
@[simp] theorem andThen_exc (x : Exn) (ρ : Env) (g : Env → SOut) : (SOut.exc x ρ).andThen g = .exc x ρ := rfl
@[simp] theorem andThen_bad (g : Env → SOut) : SOut.bad.andThen g = .bad := rfl
def sSeq (f g : Env → SOut) : Env → SOut := fun ρ => (f ρ).andThen g
def sSet (i : Nat) (f : Env → Out Dt) (lk : List Nat) : Env → SOut := fun ρ => stE (f ρ) ρ fun d => .ok .nx ((frzD d lk ρ).set i (some (.sh d)))
def sSetL (i : Nat) (f : Env → Out (List Dt)) (lk : List Nat) : Env → SOut := fun ρ => stE (f ρ) ρ fun ds => .ok .nx ((frz lk ρ).set i (some (.ol ds)))
def sDrop (f : Env → Out Dt) : Env → SOut := fun ρ => stE (f ρ) ρ fun _ => .ok .nx ρ
def sRet (f : Env → Out Dt) : Env → SOut := fun ρ => stE (f ρ) ρ fun d => .ok (.rt d) ρ
def sRetN : Env → SOut := fun ρ => .ok (.rt .non) ρ
def sIf (c : Env → Out Bool) (f g : Env → SOut) : Env → SOut := fun ρ => stE (c ρ) ρ fun b => if b = true then f ρ else g ρ
def sAppend (i : Nat) (f : Env → Out Dt) (lk : List Nat) : Env → SOut := fun ρ => match ρ[i]? with
  | some (some (.ol _)) => stE (f ρ) ρ fun d => (match (frzD d lk ρ)[i]? with
    | some (some (.ol ds)) => if ds.length < 16777216 then .ok .nx ((frzD d lk ρ).set i (some (.ol (ds ++ [d])))) else .bad
    | _ => .bad)
  | _ => .bad
def sSetIx (i : Nat) (fi f : Env → Out Dt) (lk : List Nat) : Env → SOut := fun ρ => stE (f ρ) ρ fun d => match (frzD d lk ρ)[i]? with
  | some (some (.ol ds)) => stE (fi (frzD d lk ρ)) (frzD d lk ρ) fun k => (match k with
    | .int k => (match ixN ds.length k with
      | some j => .ok .nx ((frzD d lk ρ).set i (some (.ol (ds.set j d))))
      | none => .bad)
    | _ => .bad)
  | _ => .bad

section
variable {K : PySem.W.Frag} {W : WX} {H0 H H1 : Hp} {A0 : Ad} {ρ : Env} {σ : L2.St} {lk la lb : List Nat} {α : Type}
theorem PostS.st {o : Out α} {k : α → SOut} {D : Ends} {R : α → Prop} (s : StOk K H0 A0 H ρ σ) (h : PostS K W H0 A0 (stE o ρ k) D) (hk : ∀ a, o = .ok a → PostS K W H0 A0 (k a) D → R a) : PostX K W H σ o R := by
  cases o with
  | ok a => exact hk a rfl h
  | exc x => exact fun c od H' s' r => h σ H' c od (s.grow s') r
  | bad => exact h
theorem tsd_seq {t u : TS} {f g : Env → SOut} (ht : TSD K W t f) (hu : TSD K W u g) : TSD K W (tSeq t u) (sSeq f g) := by
  intro H0 A0 ρ σ H D s h
  refine ht _ _ _ _ _ { D with nx := u D } s ?_
  unfold sSeq at h
  cases e : f ρ with
  | ok fl ρ' =>
    rw [e] at h
    cases fl with
    | nx => exact fun σ' H' s' => hu _ _ _ _ _ _ s' h
    | bk => exact h
    | ct => exact h
    | rt d => exact h
  | exc x ρ' => rw [e] at h; exact h
  | bad => rw [e] at h; exact h
theorem tsd_next : TSD K W tNext sNext := fun H0 A0 ρ σ H D s h => h σ H s
theorem tsd_brk : TSD K W tBreak sBrk := fun H0 A0 ρ σ H D s h => h σ H s
theorem tsd_cont : TSD K W tCont sCont := fun H0 A0 ρ σ H D s h => h σ H s
theorem tsd_set {te : TE} {f : Env → Out Dt} {i : Nat} (ha : TED K W te f la) : TSD K W (tAsg te (gName i)) (sSet i f la) := by
  intro H0 A0 ρ σ H D s h
  exact ha _ _ _ _ _ _ s (PostS.st s h fun d _ h1 v H1 s1 r1 => h1 _ _ (s.give s1 r1))
theorem tsd_setL {te : TE} {f : Env → Out (List Dt)} {i : Nat} (ha : TLD K W te f la) : TSD K W (tAsg te (gName i)) (sSetL i f la) := by
  intro H0 A0 ρ σ H D s h
  exact ha _ _ _ _ _ _ s (PostS.st s h fun d _ h1 p vs H1 s1 hp hp' r1 => h1 _ _ (s.giveL s1 hp hp' r1))
theorem tsd_drop {te : TE} {f : Env → Out Dt} (ha : TED K W te f la) : TSD K W (tDrop te) (sDrop f) := by
  intro H0 A0 ρ σ H D s h
  exact ha _ _ _ _ _ _ s (PostS.st s h fun d _ h1 v H1 s1 r1 => h1 _ _ (s.grow s1))
theorem tsd_ret {te : TE} {f : Env → Out Dt} (ha : TED K W te f la) : TSD K W (tRet te) (sRet f) := by
  intro H0 A0 ρ σ H D s h
  exact ha _ _ _ _ _ _ s (PostS.st s h fun d _ h1 v H1 s1 r1 => h1 _ _ (s.same.trans s1) (r1.anti fun _ z => .inl z))
theorem tsd_retN : TSD K W tRetN sRetN := fun H0 A0 ρ σ H D s h => h .non H s.same rfl
theorem tsd_if {tc : TT} {t u : TS} {c : Env → Out Bool} {f g : Env → SOut} (hc : TTD K W tc c la) (ht : TSD K W t f) (hu : TSD K W u g) : TSD K W (tIfS tc t u) (sIf c f g) := by
  intro H0 A0 ρ σ H D s h
  refine hc _ _ _ _ _ _ s (PostS.st s h fun b _ h1 H1 s1 => ?_)
  cases b with
  | true => exact ht _ _ _ _ _ _ (s.grow s1) h1
  | false => exact hu _ _ _ _ _ _ (s.grow s1) h1
/-- the wish's avoided set behind a freeze -/
theorem fzD (s : StOk K H0 A0 H ρ σ) {d : Dt} {v : V} (hs : Same H H1) (r : Rep K H1 (Av A0 ρ σ lk) d v) : StOk K H0 A0 H1 (frzD d lk ρ) σ ∧ Rep K H1 (Av A0 (frzD d lk ρ) σ []) d v := by
  unfold frzD
  split
  · rename_i hd
    exact ⟨s.grow hs, Rep.pure (fun a z => (s.grow hs).avMut z) d v hd r⟩
  · obtain ⟨s1, h1⟩ := (s.grow hs).fz lk
    exact ⟨s1, r.anti fun a z => by have q := h1 [] a z; rwa [List.append_nil] at q⟩
theorem tsd_append {te : TE} {f : Env → Out Dt} {i : Nat} (ha : TED K W te f la) : TSD K W (tDrop (tBM K "list" rAppend (tVar i) (tCons te tNil))) (sAppend i f la) := by
  intro H0 A0 ρ σ H D s h
  unfold sAppend at h
  split at h
  · rename_i ds0 e0
    obtain ⟨a, vs, e1, h0, h1, r0⟩ := s.ol i ds0 e0
    refine ⟨_, e1, .inl ⟨rfl, vs, SqL.of h1⟩, ?_⟩
    refine ha _ _ _ _ _ _ s (PostS.st s h fun d _ h2 v H1 s1 r1 => ?_)
    obtain ⟨s2, r2⟩ := fzD s s1 r1
    split at h2
    · rename_i ds e2
      split at h2
      · rename_i hl
        obtain ⟨a', vs', e3, h0', h1', r3⟩ := s2.ol i ds e2
        rw [e1] at e3
        cases e3
        refine ⟨a, vs', v, rfl, rfl, h1', by rw [r3.length, sizeLine_eq]; exact hl, ?_⟩
        exact h2 _ _ (s2.mutL e2 e1 (Reps.append r3 (Reps.cons r2 Reps.nil)))
      · exact False.elim h2
    · exact False.elim h2
  · exact False.elim h
/-- x[i] = e, x an own list -/
theorem tsd_setIx {te ti : TE} {f fi : Env → Out Dt} {i : Nat} (ha : TED K W te f la) (hi : TED K W ti fi lb) : TSD K W (tAsg te (gSub (tVar i) ti rSetL)) (sSetIx i fi f la) := by
  intro H0 A0 ρ σ H D s h
  unfold sSetIx at h
  refine ha _ _ _ _ _ _ s (PostS.st s h fun d _ h2 v H1 s1 r1 => ?_)
  obtain ⟨s2, r2⟩ := fzD s s1 r1
  split at h2
  · rename_i ds e2
    obtain ⟨a, vs, e1, h0, h1, r3⟩ := s2.ol i ds e2
    refine ⟨_, e1, ?_⟩
    refine hi _ _ _ _ _ _ s2 (PostS.st s2 h2 fun k _ h3 w H2 s3 r4 => ?_)
    have sg := s2.grow s3
    split at h3
    · rename_i kk _
      split at h3
      · rename_i j ej
        refine ⟨a, vs, kk, j, rfl, r4, s3 _ _ h1, by rw [r3.length]; exact ej, ?_⟩
        exact h3 _ _ (sg.mutL e2 e1 (Reps.set j (r3.same s3) (r2.same s3)))
      · exact False.elim h3
    · exact False.elim h3
  · exact False.elim h2
/-! targets: what they do with data; S the slots that they store in -/
def Out1 (S : List Nat) (ρ ρ' : Env) (σ σ' : L2.St) : Prop := σ'.length = σ.length ∧ ∀ j, j ∉ S → σ'[j]? = σ[j]? ∧ ρ'[j]? = ρ[j]?
def TGD (K : PySem.W.Frag) (g : TG) (u : Dt → Env → Option Env) (S : List Nat) : Prop :=
  ∀ (H0 : Hp) (A0 : Ad) (ρ ρ' : Env) (σ : L2.St) (H : Hp) (d : Dt) (v : V) (Q : L2.St → Hp → Prop), StOk K H0 A0 H ρ σ → Rep K H (Av A0 ρ σ []) d v → u d ρ = some ρ' →
    (∀ σ', StOk K H0 A0 H ρ' σ' → (∀ a, Av A0 ρ' σ' [] a → Av A0 ρ σ [] a) → Out1 S ρ ρ' σ σ' → Q σ' H) → g v σ H Q
def PGD (X : Cx) (tg : Expr) (u : Dt → Env → Option Env) (S : List Nat) : Prop := ∃ g, PG X tg g ∧ TGD X.K g u S
def uName (i : Nat) : Dt → Env → Option Env := fun d ρ => some (ρ.set i (some (.sh d)))
theorem tgd_name {i : Nat} : TGD K (gName i) (uName i) [i] := by
  intro H0 A0 ρ ρ' σ H d v Q s r e q
  cases e
  refine q _ (s.put r) (fun a z => StOk.putAv z) ⟨by rw [List.length_set], fun j hj => ?_⟩
  have ne : i ≠ j := fun z => hj (by rw [z]; exact List.mem_singleton.mpr rfl)
  exact ⟨List.getElem?_set_ne ne, List.getElem?_set_ne ne⟩
def uNil : List Dt → Env → Option Env := fun ds ρ => match ds with
  | [] => some ρ
  | _ => none
def uCons (u : Dt → Env → Option Env) (us : List Dt → Env → Option Env) : List Dt → Env → Option Env := fun ds ρ => match ds with
  | d :: ds => (u d ρ).bind fun ρ' => us ds ρ'
  | _ => none
def TGsD (K : PySem.W.Frag) (g : TGs) (us : List Dt → Env → Option Env) (S : List Nat) : Prop :=
  ∀ (H0 : Hp) (A0 A : Ad) (ρ ρ' : Env) (σ : L2.St) (H : Hp) (ds : List Dt) (vs : List V) (Q : L2.St → Hp → Prop), StOk K H0 A0 H ρ σ → (∀ a, Av A0 ρ σ [] a → A a) → Reps K H A ds vs → us ds ρ = some ρ' →
    (∀ σ', StOk K H0 A0 H ρ' σ' → (∀ a, Av A0 ρ' σ' [] a → Av A0 ρ σ [] a) → Out1 S ρ ρ' σ σ' → Q σ' H) → g vs σ H Q
def PGsD (X : Cx) (ts : List Expr) (us : List Dt → Env → Option Env) (S : List Nat) : Prop := ∃ g, PGs X ts g ∧ TGsD X.K g us S
theorem tgsd_nil : TGsD K gNil uNil [] := by
  intro H0 A0 A ρ ρ' σ H ds vs Q s ha r e q
  cases ds with
  | nil =>
    cases e
    unfold Reps at r
    exact ⟨r, q σ s (fun a z => z) ⟨rfl, fun j _ => ⟨rfl, rfl⟩⟩⟩
  | cons d ds => cases e
theorem tgsd_cons {g : TG} {gs : TGs} {u : Dt → Env → Option Env} {us : List Dt → Env → Option Env} {S T : List Nat} (h1 : TGD K g u S) (h2 : TGsD K gs us T) : TGsD K (gCons g gs) (uCons u us) (S ++ T) := by
  intro H0 A0 A ρ ρ' σ H ds vs Q s ha r e q
  cases ds with
  | nil => cases e
  | cons d ds =>
    unfold Reps at r
    obtain ⟨v, t, rfl, r1, r2⟩ := r
    refine ⟨v, t, rfl, ?_⟩
    have e' : (u d ρ).bind (fun ρ' => us ds ρ') = some ρ' := e
    cases e1 : u d ρ with
    | none => rw [e1] at e'; cases e'
    | some ρ1 =>
      rw [e1] at e'
      refine h1 _ _ _ _ _ _ _ _ _ s (r1.anti ha) e1 fun σ1 s1 m1 o1 => ?_
      refine h2 _ _ A _ _ _ _ _ _ _ s1 (fun a z => ha a (m1 a z)) r2 e' fun σ2 s2 m2 o2 => q σ2 s2 (fun a z => m1 a (m2 a z)) ⟨o2.1.trans o1.1, fun j hj => ?_⟩
      obtain ⟨x1, y1⟩ := o1.2 j fun z => hj (List.mem_append_left _ z)
      obtain ⟨x2, y2⟩ := o2.2 j fun z => hj (List.mem_append_right _ z)
      exact ⟨x2.trans x1, y2.trans y1⟩
def uTup (us : List Dt → Env → Option Env) : Dt → Env → Option Env := fun d ρ => match d with
  | .tup ds => us ds ρ
  | _ => none
theorem tgd_tup {gs : TGs} {us : List Dt → Env → Option Env} {n : Nat} {S : List Nat} (h : TGsD K gs us S) (hn : ∀ ds ρ ρ', us ds ρ = some ρ' → ds.length = n) : TGD K (gTup K n gs) (uTup us) S := by
  intro H0 A0 ρ ρ' σ H d v Q s r e q
  cases d <;> try (cases e; done)
  rename_i ds
  unfold Rep at r
  obtain ⟨a, vs, rfl, h1, r⟩ := r
  exact ⟨a, vs, rfl, SqT.of' h1, by rw [r.length]; exact hn _ _ _ e, h _ _ _ _ _ _ _ _ _ _ s (fun a z => z) r e q⟩
def sAsg (u : Dt → Env → Option Env) (f : Env → Out Dt) (lk : List Nat) : Env → SOut := fun ρ => stE (f ρ) ρ fun d => match u d (frzD d lk ρ) with
  | some ρ' => .ok .nx ρ'
  | none => .bad
theorem tsd_asg {te : TE} {f : Env → Out Dt} {g : TG} {u : Dt → Env → Option Env} {S : List Nat} (ha : TED K W te f la) (hg : TGD K g u S) : TSD K W (tAsg te g) (sAsg u f la) := by
  intro H0 A0 ρ σ H D s h
  unfold sAsg at h
  refine ha _ _ _ _ _ _ s (PostS.st s h fun d _ h2 v H1 s1 r1 => ?_)
  obtain ⟨s2, r2⟩ := fzD s s1 r1
  split at h2
  · rename_i ρ' e
    exact hg _ _ _ _ _ _ _ _ _ s2 r2 e fun σ' s' _ _ => h2 σ' H1 s'
  · exact False.elim h2
/-! while -/
def whileN : Nat → (Env → Out Bool) → (Env → SOut) → Env → SOut
  | 0, _, _, _ => .bad
  | n + 1, c, b, ρ => stE (c ρ) ρ fun k => if k = true then (match b ρ with
      | .ok .nx ρ' => whileN n c b ρ'
      | .ok .ct ρ' => whileN n c b ρ'
      | .ok .bk ρ' => .ok .nx ρ'
      | o => o) else .ok .nx ρ
theorem whileN_mono {c : Env → Out Bool} {b : Env → SOut} : ∀ (n m : Nat) (ρ : Env), n ≤ m → whileN n c b ρ ≠ .bad → whileN m c b ρ = whileN n c b ρ
  | 0, m, ρ, _, h => absurd rfl h
  | n + 1, 0, ρ, h, _ => absurd h (by omega)
  | n + 1, m + 1, ρ, h, hb => by
    unfold whileN at hb ⊢
    cases e : c ρ with
    | ok k =>
      rw [e] at hb
      simp only [stE_ok] at hb ⊢
      cases k with
      | true =>
        simp only [if_true] at hb ⊢
        cases e2 : b ρ with
        | ok f ρ' =>
          rw [e2] at hb
          cases f with
          | nx => exact whileN_mono n m ρ' (by omega) hb
          | ct => exact whileN_mono n m ρ' (by omega) hb
          | bk => rfl
          | rt d => rfl
        | exc x ρ' => rfl
        | bad => rfl
      | false => rfl
    | exc x => rfl
    | bad => rfl
open Classical in
noncomputable def sWhile (c : Env → Out Bool) (b : Env → SOut) : Env → SOut := fun ρ => if h : ∃ n, whileN n c b ρ ≠ .bad then whileN (choose h) c b ρ else .bad
theorem sWhile_of {c : Env → Out Bool} {b : Env → SOut} {ρ : Env} (n : Nat) (h : whileN n c b ρ ≠ .bad) : sWhile c b ρ = whileN n c b ρ := by
  unfold sWhile
  have hx : ∃ n, whileN n c b ρ ≠ .bad := ⟨n, h⟩
  rw [dif_pos hx]
  have h2 := Classical.choose_spec hx
  by_cases q : n ≤ Classical.choose hx
  · exact whileN_mono _ _ _ q h
  · exact (whileN_mono _ _ _ (by omega) h2).symm
theorem sWhile_some {c : Env → Out Bool} {b : Env → SOut} {ρ : Env} (h : sWhile c b ρ ≠ .bad) : ∃ n, whileN n c b ρ = sWhile c b ρ := by
  unfold sWhile at h ⊢
  split at h
  · rename_i hx
    exact ⟨_, by rw [dif_pos hx]⟩
  · exact absurd rfl h
/-- one turn -/
theorem sWhile_eq (c : Env → Out Bool) (b : Env → SOut) (ρ : Env) : sWhile c b ρ = stE (c ρ) ρ fun k => if k = true then (match b ρ with
      | .ok .nx ρ' => sWhile c b ρ'
      | .ok .ct ρ' => sWhile c b ρ'
      | .ok .bk ρ' => .ok .nx ρ'
      | o => o) else .ok .nx ρ := by
  by_cases hb : sWhile c b ρ = .bad
  · -- then the right side is bad too
    have all : ∀ n, whileN n c b ρ = .bad := fun n => by
      by_cases q : whileN n c b ρ = .bad
      · exact q
      · rw [sWhile_of n q] at hb
        exact absurd hb q
    rw [hb]
    have a1 := all 1
    unfold whileN at a1
    cases e : c ρ with
    | ok k =>
      rw [e] at a1
      cases k with
      | true =>
        simp only [stE_ok, if_true] at a1 ⊢
        have step : ∀ ρ', (b ρ = .ok .nx ρ' ∨ b ρ = .ok .ct ρ') → sWhile c b ρ' = .bad := fun ρ' hq => by
          by_cases q : sWhile c b ρ' = .bad
          · exact q
          · obtain ⟨n, hn⟩ := sWhile_some q
            have z := all (n + 1)
            unfold whileN at z
            rw [e] at z
            simp only [stE_ok, if_true] at z
            rcases hq with hq | hq <;> (rw [hq] at z; exact absurd (hn.symm.trans z) q)
        cases e2 : b ρ with
        | ok f ρ' =>
          rw [e2] at a1
          cases f with
          | nx => exact (step ρ' (.inl e2)).symm
          | ct => exact (step ρ' (.inr e2)).symm
          | bk => exact a1.symm
          | rt d => exact a1.symm
        | exc x ρ' => rw [e2] at a1; exact a1.symm
        | bad => rfl
      | false => exact a1.symm
    | exc x => rw [e] at a1; exact a1.symm
    | bad => rfl
  · obtain ⟨n, hn⟩ := sWhile_some hb
    rw [← hn]
    cases n with
    | zero => exact absurd hn.symm hb
    | succ n =>
      rw [← hn] at hb
      unfold whileN at hb ⊢
      cases e : c ρ with
      | ok k =>
        rw [e] at hb
        simp only [stE_ok] at hb ⊢
        cases k with
        | true =>
          simp only [if_true] at hb ⊢
          cases e2 : b ρ with
          | ok f ρ' =>
            rw [e2] at hb
            cases f with
            | nx => exact (sWhile_of n hb).symm
            | ct => exact (sWhile_of n hb).symm
            | bk => rfl
            | rt d => rfl
          | exc x ρ' => rfl
          | bad => rfl
        | false => rfl
      | exc x => rfl
      | bad => rfl
theorem tsd_while {tc : TT} {tb : TS} {c : Env → Out Bool} {b : Env → SOut} (hc : TTD K W tc c la) (hb : TSD K W tb b) : TSD K W (tWhile tc tb) (sWhile c b) := by
  intro H0 A0 ρ σ H D s h
  have hne : sWhile c b ρ ≠ .bad := fun e => by rw [e] at h; exact h
  obtain ⟨n, hn⟩ := sWhile_some hne
  rw [← hn] at h
  refine ⟨fun m σ H => ∃ ρ, StOk K H0 A0 H ρ σ ∧ PostS K W H0 A0 (whileN m c b ρ) D, ⟨n, ρ, s, h⟩, ?_⟩
  rintro m σ H ⟨ρ, s, h⟩
  cases m with
  | zero => exact False.elim h
  | succ m =>
    unfold whileN at h
    refine hc _ _ _ _ _ _ s (PostS.st s h fun k _ h1 H1 s1 => ?_)
    cases k with
    | false => exact h1 σ H1 (s.grow s1)
    | true =>
      rw [if_pos rfl]
      simp only [if_true] at h1
      refine ⟨fun σ' H' => ∃ ρ, StOk K H0 A0 H' ρ σ' ∧ PostS K W H0 A0 (whileN m c b ρ) D, fun σ' H' q => ⟨m, Nat.lt_succ_self m, q⟩, ?_⟩
      refine hb _ _ _ _ _ _ (s.grow s1) ?_
      cases e : b ρ with
      | ok f ρ' =>
        rw [e] at h1
        cases f with
        | nx => exact fun σ' H' s' => ⟨ρ', s', h1⟩
        | ct => exact fun σ' H' s' => ⟨ρ', s', h1⟩
        | bk => exact fun σ' H' s' => h1 σ' H' s'
        | rt d => exact h1
      | exc x ρ' => rw [e] at h1; exact h1
      | bad => rw [e] at h1; exact h1
end
end FD

namespace FD
open PySem L2
/-! ### for -/
def Ow (ρ : Env) (σ : L2.St) (lk : List Nat) : Ad := fun a => ∃ i, i ∉ lk ∧ OwnAt ρ σ i a
open Classical in
/-- what stands for good: all but the own things that are not lent -/
noncomputable def Bs (H : Hp) (ρ : Env) (σ : L2.St) (lk : List Nat) : Hp := fun a => if Ow ρ σ lk a then none else H a
section
variable {K : PySem.W.Frag} {W : WX} {H0 H0' H H1 : Hp} {A0 : Ad} {ρ : Env} {σ : L2.St} {lk la lb : List Nat} {α : Type}
theorem Bs_ne {a : Addr} (h : ¬ Ow ρ σ lk a) : Bs H ρ σ lk a = H a := by unfold Bs; rw [if_neg h]
theorem Bs_ow {a : Addr} (h : Ow ρ σ lk a) : Bs H ρ σ lk a = none := by unfold Bs; rw [if_pos h]
theorem Bs_same : Same (Bs H ρ σ lk) H := fun a o e => by
  unfold Bs at e
  split at e
  · cases e
  · exact e
theorem StOk.owNew (s : StOk K H0 A0 H ρ σ) {a : Addr} (h : Ow ρ σ lk a) : H0 a = none := by
  obtain ⟨i, _, h⟩ := h
  exact (s.ownSome h).2
theorem StOk.rebase (s : StOk K H0 A0 H ρ σ) (hs : Same H H1) (lk : List Nat) : StOk K (Bs H1 ρ σ lk) A0 H1 (frz lk ρ) σ ∧ Same H0 (Bs H1 ρ σ lk) := by
  have s1 := s.grow hs
  obtain ⟨s2, h2⟩ := s1.fz lk
  have nA : ∀ a, A0 a → ¬ Ow ρ σ lk a := fun a z q => by
    have q1 := s.a0 a z
    rw [s.owNew q] at q1
    exact q1
  have own : ∀ a, H0 a = none → Av A0 (frz lk ρ) σ [] a → Bs H1 ρ σ lk a = none := fun a h0 z => by
    have q := h2 [] a z
    rw [List.append_nil] at q
    rcases q with q | q
    · have q1 := s.a0 a q
      rw [h0] at q1
      exact False.elim q1
    · exact Bs_ow q
  refine ⟨⟨Bs_same, fun a z => ?_, s2.len, s2.sh, fun i ds e => ?_, fun i ks ds e => ?_, s2.ap⟩, fun a o e => ?_⟩
  · rw [Bs_ne (nA a z)]
    exact s1.avMut (lk := []) (.inl z)
  · obtain ⟨a, vs, e1, h0, h1, r⟩ := s2.ol i ds e
    exact ⟨a, vs, e1, own a h0 (.inr ⟨i, (fun z => nomatch z), _, e, rfl, e1⟩), h1, r⟩
  · obtain ⟨a, vs, e1, h0, h1, h3, r⟩ := s2.od i ks ds e
    exact ⟨a, vs, e1, own a h0 (.inr ⟨i, (fun z => nomatch z), _, e, rfl, e1⟩), h1, h3, r⟩
  · rw [Bs_ne fun q => by rw [s.owNew q] at e; cases e]
    exact s1.same a o e
theorem StOk.weaken (h0 : Same H0 H0') (ha : ∀ a, A0 a → Mut (H0 a)) (s : StOk K H0' A0 H ρ σ) : StOk K H0 A0 H ρ σ :=
  ⟨h0.trans s.same, ha, s.len, s.sh, fun i ds e => by
    obtain ⟨a, vs, e1, hn, h1, r⟩ := s.ol i ds e
    exact ⟨a, vs, e1, h0.free hn, h1, r⟩, fun i ks ds e => by
    obtain ⟨a, vs, e1, hn, h1, h2, r⟩ := s.od i ks ds e
    exact ⟨a, vs, e1, h0.free hn, h1, h2, r⟩, s.ap⟩
theorem PostS.weaken {o : SOut} {D : Ends} (h0 : Same H0 H0') (ha : ∀ a, A0 a → Mut (H0 a)) (h : PostS K W H0 A0 o D) : PostS K W H0' A0 o D := by
  cases o with
  | ok f ρ =>
    cases f with
    | nx => exact fun σ H s => h σ H (s.weaken h0 ha)
    | bk => exact fun σ H s => h σ H (s.weaken h0 ha)
    | ct => exact fun σ H s => h σ H (s.weaken h0 ha)
    | rt d => exact fun v H s r => h v H (h0.trans s) r
  | exc x ρ => exact fun σ H c od s r => h σ H c od (s.weaken h0 ha) r
  | bad => exact h
/-- J walks ds, which stand in B -/
structure Walks (K : PySem.W.Frag) (B : Hp) (A0 : Ad) (J : It) (ds : List Dt) : Prop where
  go : ∀ i H, Same B H → i < ds.length → J.go i H
  stop : ∀ H, Same B H → J.stop ds.length H
  yld : ∀ (i : Nat) (H : Hp) (x : V) (H' : Hp) (d : Dt), Same B H → J.yld i H x H' → ds[i]? = some d → Same H H' ∧ ∀ A : Ad, (∀ a, A a → (A0 a ∨ B a = none) ∧ H a ≠ none) → Rep K H' A d x
def TID (K : PySem.W.Frag) (W : WX) (wi : TI) (f : Env → Out (List Dt)) (lk : List Nat) : Prop :=
  ∀ (H0 : Hp) (A0 : Ad) (ρ : Env) (σ : L2.St) (H : Hp) (R : It → Hp → Prop), StOk K H0 A0 H ρ σ → PostX K W H σ (f ρ) (fun ds => ∀ J H1, Same H H1 → Walks K (Bs H1 ρ σ lk) A0 J ds → R J H1) → wi σ H R
def PID (X : Cx) (W : WX) (tg iter : Expr) (f : Env → Out (List Dt)) (lk : List Nat) : Prop := ∃ wi, PI X tg iter wi ∧ TID X.K W wi f lk
def forD (u : Dt → Env → Option Env) (b : Env → SOut) : List Dt → Env → SOut
  | [], ρ => .ok .nx ρ
  | d :: ds, ρ => match u d ρ with
    | none => .bad
    | some ρ1 => match b ρ1 with
      | .ok .nx ρ' => forD u b ds ρ'
      | .ok .ct ρ' => forD u b ds ρ'
      | .ok .bk ρ' => .ok .nx ρ'
      | o => o
@[simp] theorem forD_nil (u : Dt → Env → Option Env) (b : Env → SOut) (ρ : Env) : forD u b [] ρ = .ok .nx ρ := rfl
theorem forD_cons (u : Dt → Env → Option Env) (b : Env → SOut) (d : Dt) (ds : List Dt) (ρ : Env) : forD u b (d :: ds) ρ = match u d ρ with
    | none => .bad
    | some ρ1 => match b ρ1 with
      | .ok .nx ρ' => forD u b ds ρ'
      | .ok .ct ρ' => forD u b ds ρ'
      | .ok .bk ρ' => .ok .nx ρ'
      | o => o := rfl
def sFor (u : Dt → Env → Option Env) (f : Env → Out (List Dt)) (lk : List Nat) (b : Env → SOut) : Env → SOut := fun ρ => stE (f ρ) ρ fun ds => forD u b ds (frz lk ρ)
theorem tsd_for {wi : TI} {g : TG} {tb : TS} {u : Dt → Env → Option Env} {f : Env → Out (List Dt)} {b : Env → SOut} {S : List Nat} (hi : TID K W wi f lk) (hg : TGD K g u S) (hb : TSD K W tb b) : TSD K W (tFor wi g tb) (sFor u f lk b) := by
  intro H0 A0 ρ σ H D s h
  refine hi _ _ _ _ _ _ s (PostS.st s h fun ds _ h1 J H1 s1 w => ?_)
  obtain ⟨sB, hB⟩ := s.rebase s1 lk
  have h2 := h1.weaken hB s.a0
  refine ⟨fun i m σ' H' => m + i = ds.length ∧ ∃ ρ', StOk K (Bs H1 ρ σ lk) A0 H' ρ' σ' ∧ PostS K W (Bs H1 ρ σ lk) A0 (forD u b (ds.drop i) ρ') D, ⟨ds.length, by omega, _, sB, h2⟩, ?_⟩
  rintro i m σ2 H2 ⟨hm, ρ2, s2, h3⟩
  by_cases hlt : i < ds.length
  · have hd : ds.drop i = ds[i] :: ds.drop (i + 1) := List.drop_eq_getElem_cons hlt
    rw [hd, forD_cons] at h3
    refine .inr ⟨w.go i H2 s2.same hlt, fun σ' H' => ∃ ρ', StOk K (Bs H1 ρ σ lk) A0 H' ρ' σ' ∧ PostS K W (Bs H1 ρ σ lk) A0 (forD u b (ds.drop (i + 1)) ρ') D, fun σ' H' q => ⟨m - 1, by omega, by omega, q⟩, fun x H3 y => ?_⟩
    obtain ⟨s3, r3⟩ := w.yld i H2 x H3 ds[i] s2.same y (List.getElem?_eq_getElem hlt)
    have r4 : Rep K H3 (Av A0 ρ2 σ2 []) ds[i] x := r3 _ fun a z => ⟨z.elim .inl fun z => .inr (s2.owNew (lk := []) z), s2.avSome z⟩
    split at h3
    · exact False.elim h3
    · rename_i ρ3 e3
      refine hg _ _ _ _ _ _ _ _ _ (s2.grow s3) r4 e3 fun σ4 s4 _ _ => ?_
      refine hb _ _ _ _ _ _ s4 ?_
      cases e : b ρ3 with
      | ok fl ρ' =>
        rw [e] at h3
        cases fl with
        | nx => exact fun σ' H' s' => ⟨ρ', s', h3⟩
        | ct => exact fun σ' H' s' => ⟨ρ', s', h3⟩
        | bk => exact fun σ' H' s' => h3 σ' H' s'
        | rt d => exact h3
      | exc x ρ' => rw [e] at h3; exact h3
      | bad => rw [e] at h3; exact h3
  · have e : i = ds.length := by omega
    subst e
    rw [List.drop_length] at h3
    exact .inl ⟨w.stop H2 s2.same, h3 σ2 H2 s2⟩

/-! a list, a tuple, a text -/
def Dt.seq : Dt → Option (List Dt)
  | .tup ds => some ds
  | .lst ds => some ds
  | .fls ds => some ds
  | .str s => some (s.cps.toList.map fun c => .str ⟨#[c]⟩)
  | _ => none
@[simp] theorem Dt.seq_tup (ds : List Dt) : (Dt.tup ds).seq = some ds := rfl
@[simp] theorem Dt.seq_lst (ds : List Dt) : (Dt.lst ds).seq = some ds := rfl
@[simp] theorem Dt.seq_fls (ds : List Dt) : (Dt.fls ds).seq = some ds := rfl
@[simp] theorem Dt.seq_str (s : Str) : (Dt.str s).seq = some (s.cps.toList.map fun c => .str ⟨#[c]⟩) := rfl
def oSeq (f : Env → Out Dt) : Env → Out (List Dt) := fun ρ => (f ρ).bind fun d => ofO d.seq
def iSeq (K : PySem.W.Frag) (tl : TE) : TI := fun σ H R => tl σ H fun x H1 => (∃ a, x = .ref a ∧ (∃ xs, SqL K H1 a xs) ∧ R (Itl K a) H1) ∨ (∃ a, x = .ref a ∧ (∃ xs, SqT K H1 a xs) ∧ R (Itt K a) H1) ∨ ∃ z, x = .str z ∧ R (Its z) H1
/-- data that stands in B, seen later with more avoided -/
theorem Rep.later {B : Hp} (hs : Same B H) {d : Dt} {v : V} (r : Rep K B A0 d v) {A : Ad} (ha : ∀ a, A a → A0 a ∨ B a = none) : Rep K H A d v := by
  refine Rep.mono (H := B) (A := fun a => A a ∨ A0 a) (fun a o _ e => hs a o e) (fun a z => .inl z) d v ?_
  -- all addresses that r uses stand in B
  refine Rep.anti (A := fun a => A0 a ∨ B a = none) (fun a z => z.elim (fun z => ha a z) .inl) ?_
  exact Rep.inDom _ _ r
theorem Rep.inB {d : Dt} {v : V} (r : Rep K H (Av A0 ρ σ lk) d v) : Rep K (Bs H ρ σ lk) A0 d v :=
  Rep.mono (fun a o n e => by rw [Bs_ne fun q => n (.inr q)]; exact e) (fun a z => .inl z) d v r
theorem Itl_walks {a : Addr} {vs : List V} {ds : List Dt} {B : Hp} (hl : ∀ H', Same B H' → SqL K H' a vs) (r : Reps K B A0 ds vs) : Walks K B A0 (Itl K a) ds where
  go := fun i H hs hi => ⟨vs, vs[i]'(by rw [r.length]; exact hi), hl H hs, List.getElem?_eq_getElem _⟩
  stop := fun H hs => ⟨vs, hl H hs, by rw [r.length]; exact Nat.le_refl _⟩
  yld := fun i H x H' d hs y e => by
    obtain ⟨rfl, y⟩ := y
    have q := y vs (hl _ hs)
    obtain ⟨v, e1, r1⟩ := r.get e
    rw [q] at e1
    cases e1
    exact ⟨Same.refl _, fun A ha => Rep.later hs r1 fun a z => (ha a z).1⟩
theorem Itt_walks {a : Addr} {vs : List V} {ds : List Dt} {B : Hp} (hl : ∀ H', Same B H' → SqT K H' a vs) (r : Reps K B A0 ds vs) : Walks K B A0 (Itt K a) ds where
  go := fun i H hs hi => ⟨vs, vs[i]'(by rw [r.length]; exact hi), hl H hs, List.getElem?_eq_getElem _⟩
  stop := fun H hs => ⟨vs, hl H hs, by rw [r.length]; exact Nat.le_refl _⟩
  yld := fun i H x H' d hs y e => by
    obtain ⟨rfl, y⟩ := y
    have q := y vs (hl _ hs)
    obtain ⟨v, e1, r1⟩ := r.get e
    rw [q] at e1
    cases e1
    exact ⟨Same.refl _, fun A ha => Rep.later hs r1 fun a z => (ha a z).1⟩
theorem Reps.inB {ds : List Dt} {vs : List V} (r : Reps K H (Av A0 ρ σ lk) ds vs) : Reps K (Bs H ρ σ lk) A0 ds vs :=
  Reps.mono (fun a o n e => by rw [Bs_ne fun q => n (.inr q)]; exact e) (fun a z => .inl z) ds vs r
theorem tid_seq {tl : TE} {f : Env → Out Dt} (ha : TED K W tl f lk) : TID K W (iSeq K tl) (oSeq f) lk := by
  intro H0 A0 ρ σ H R s h
  unfold oSeq at h
  refine ha _ _ _ _ _ _ s (h.seq fun d _ h1 v H1 s1 r1 => ?_)
  obtain ⟨ds, e, q⟩ := ofO_seq h1
  cases d <;> try (cases e; done)
  · rename_i z _
    cases e
    have e1 : v = .str z := r1
    subst e1
    refine .inr (.inr ⟨z, rfl, q _ _ s1 ⟨fun i H' _ hi => ?_, fun H' _ => ?_, fun i H' x H'' d hs y e => ?_⟩⟩)
    · simpa [Its] using hi
    · simp [Its]
    · obtain ⟨rfl, c, e1, rfl⟩ := y
      refine ⟨Same.refl _, fun A _ => ?_⟩
      rw [List.getElem?_map] at e
      have e2 : z.cps.toList[i]? = some c := by simpa using e1
      rw [e2] at e
      cases e
      rfl
  · rename_i es _
    cases e
    unfold Rep at r1
    obtain ⟨a, vs, rfl, h1', r⟩ := r1
    have hl : ∀ H', Same (Bs H1 ρ σ lk) H' → SqT K H' a vs := fun H' hs => by
      rcases h1' with ⟨n, e⟩ | h
      · exact SqT.of (hs _ _ (by rw [Bs_ne fun q => n (.inr q)]; exact e))
      · exact .inr h
    exact .inr (.inl ⟨a, rfl, ⟨vs, SqT.of' h1'⟩, q _ _ s1 (Itt_walks hl r.inB)⟩)
  · rename_i es _
    cases e
    unfold Rep at r1
    obtain ⟨a, vs, rfl, n, e, r⟩ := r1
    have hB : Bs H1 ρ σ lk a = some (.lst vs) := by rw [Bs_ne fun q => n (.inr q)]; exact e
    exact .inl ⟨a, rfl, ⟨vs, SqL.of e⟩, q _ _ s1 (Itl_walks (fun H' hs => SqL.of (hs _ _ hB)) r.inB)⟩
  · rename_i es _
    cases e
    unfold Rep at r1
    obtain ⟨a, vs, rfl, h1', r⟩ := r1
    have hl : ∀ H', Same (Bs H1 ρ σ lk) H' → SqL K H' a vs := fun H' hs => by
      rcases h1' with ⟨n, o, e⟩ | h
      · exact .inl (.inr ⟨o, hs _ _ (by rw [Bs_ne fun q => n (.inr q)]; exact e)⟩)
      · exact .inr h
    exact .inl ⟨a, rfl, ⟨vs, hl H1 Bs_same⟩, q _ _ s1 (Itl_walks hl r.inB)⟩
/-! ranges -/
def rngD (lo : Int) (n : Nat) : List Dt := (List.range n).map fun (k : Nat) => Dt.int (lo + (k : Int))
theorem rngD_length (lo : Int) (n : Nat) : (rngD lo n).length = n := by unfold rngD; simp
def smallB (i : Int) : Bool := decide (-(2 ^ 62) ≤ i ∧ i < 2 ^ 62)
def oRng : List Dt → Option (List Dt)
  | [.int j] => if smallB j = true then some (rngD 0 j.toNat) else none
  | [.int i, .int j] => if smallB i = true ∧ smallB j = true then some (rngD i (j - i).toNat) else none
  | _ => none
@[simp] theorem oRng_1 (j : Int) : oRng [.int j] = if smallB j = true then some (rngD 0 j.toNat) else none := rfl
@[simp] theorem oRng_2 (i j : Int) : oRng [.int i, .int j] = if smallB i = true ∧ smallB j = true then some (rngD i (j - i).toNat) else none := rfl
def oRange (f : Env → Out (List Dt)) : Env → Out (List Dt) := fun ρ => (f ρ).bind fun ds => ofO (oRng ds)
theorem Itr_walks (lo : Int) (n : Nat) (B : Hp) : Walks K B A0 (Itr lo n) (rngD lo n) where
  go := fun i H _ hi => by rw [rngD_length] at hi; exact hi
  stop := fun H _ => by rw [rngD_length]; exact Nat.le_refl n
  yld := fun i H x H' d _ y e => by
    obtain ⟨rfl, rfl⟩ := y
    refine ⟨Same.refl _, fun A _ => ?_⟩
    unfold rngD at e
    rw [List.getElem?_map] at e
    cases e1 : (List.range n)[i]? with
    | none => rw [e1] at e; cases e
    | some k =>
      rw [e1] at e
      obtain ⟨_, e2⟩ := List.getElem?_eq_some_iff.mp e1
      rw [List.getElem_range] at e2
      subst e2
      cases e
      rfl
theorem reps1 {K : PySem.W.Frag} {H : Hp} {A : Ad} {d : Dt} {vs : List V} (r : Reps K H A [d] vs) : ∃ v, vs = [v] ∧ Rep K H A d v := by
  unfold Reps at r
  obtain ⟨v, t, rfl, h1, h2⟩ := r
  unfold Reps at h2
  exact ⟨v, by rw [h2], h1⟩
theorem reps2 {K : PySem.W.Frag} {H : Hp} {A : Ad} {d e : Dt} {vs : List V} (r : Reps K H A [d, e] vs) : ∃ v u, vs = [v, u] ∧ Rep K H A d v ∧ Rep K H A e u := by
  unfold Reps at r
  obtain ⟨v, t, rfl, h1, h2⟩ := r
  obtain ⟨u, rfl, h3⟩ := reps1 h2
  exact ⟨v, u, rfl, h1, h3⟩
theorem smallB_iff {i : Int} : smallB i = true ↔ -(2 ^ 62) ≤ i ∧ i < 2 ^ 62 := by unfold smallB; exact decide_eq_true_iff
theorem tid_rng1 {ta : TA} {f : Env → Out (List Dt)} (hn : ∀ ρ ds, f ρ = .ok ds → ds.length = 1) (ha : TAD K W ta f lk) : TID K W (iRng1 ta) (oRange f) [] := by
  intro H0 A0 ρ σ H R s h
  unfold oRange at h
  refine ha _ _ _ _ _ _ s (h.seq fun ds e0 h1 vs H1 s1 r1 => ?_)
  obtain ⟨es, e, q⟩ := ofO_seq h1
  match ds, hn ρ ds e0 with
  | [.int j], _ =>
    rw [oRng_1] at e
    obtain ⟨c, rfl⟩ := some_ite e
    obtain ⟨v, rfl, r⟩ := reps1 r1
    have e1 : v = .int j := r
    subst e1
    rw [smallB_iff] at c
    exact ⟨j, rfl, c.1, c.2, q _ _ s1 (Itr_walks 0 _ _)⟩
  | [.non], _ => cases e
  | [.bl _], _ => cases e
  | [.str _], _ => cases e
  | [.ty _], _ => cases e
  | [.cls _], _ => cases e
  | [.tup _], _ => cases e
  | [.lst _], _ => cases e
  | [.fls _], _ => cases e
  | [.dic _ _], _ => cases e
  | [.obj _ _ _], _ => cases e
  | [.exn _ _ _ _ _], _ => cases e
theorem oRng2_inv {a b : Dt} {es : List Dt} (e : oRng [a, b] = some es) : ∃ i j, a = .int i ∧ b = .int j ∧ (smallB i = true ∧ smallB j = true) ∧ es = rngD i (j - i).toNat := by
  cases a <;> cases b <;> try (cases e; done)
  rename_i i j
  rw [oRng_2] at e
  obtain ⟨c, rfl⟩ := some_ite e
  exact ⟨i, j, rfl, rfl, c, rfl⟩
theorem tid_rng2 {ta : TA} {f : Env → Out (List Dt)} (hn : ∀ ρ ds, f ρ = .ok ds → ds.length = 2) (ha : TAD K W ta f lk) : TID K W (iRng2 ta) (oRange f) [] := by
  intro H0 A0 ρ σ H R s h
  unfold oRange at h
  refine ha _ _ _ _ _ _ s (h.seq fun ds e0 h1 vs H1 s1 r1 => ?_)
  obtain ⟨es, e, q⟩ := ofO_seq h1
  match ds, hn ρ ds e0, e, r1 with
  | [a, b], _, e, r1 =>
    obtain ⟨i, j, rfl, rfl, ⟨c1, c2⟩, rfl⟩ := oRng2_inv e
    obtain ⟨v, u, rfl, r, r'⟩ := reps2 r1
    have e1 : v = .int i := r
    have e2 : u = .int j := r'
    subst e1 e2
    rw [smallB_iff] at c1 c2
    exact ⟨i, j, rfl, ⟨c1.1, c1.2, c2.1, c2.2⟩, q _ _ s1 (Itr_walks i _ _)⟩
theorem len_nil : ∀ ρ ds, aNil ρ = .ok ds → ds.length = 0 := fun ρ ds h => by cases h; rfl
theorem len_cons {n : Nat} {f : Env → Out Dt} {g : Env → Out (List Dt)} (h : ∀ ρ ds, g ρ = .ok ds → ds.length = n) : ∀ ρ ds, aCons f g ρ = .ok ds → ds.length = n + 1 := fun ρ ds e => by
  obtain ⟨d, _, e1⟩ := Out.bind_eq_ok e
  obtain ⟨es, e2, e3⟩ := Out.bind_eq_ok e1
  cases e3
  rw [List.length_cons, h _ _ e2]
end
section
variable {X : Cx} {W : WX} {tg e a b : Expr} {f fa fb : Env → Out Dt} {lk la lb : List Nat} {p pos : Pos}
open PySem.Spec PyProof.Rows in
theorem pi_any {l : Expr} {tl : TE} (hl : PE X l tl) : PI X tg l (iSeq X.K tl) := by
  refine ⟨fun pins s σ H R I h => ?_⟩
  refine thn (hl.run pins s σ H _ I h) fun v s1 ⟨x, H1, I1, r1, q1⟩ => ?_
  rcases q1 with ⟨a, e, ⟨xs, hq⟩, q⟩ | ⟨a, e, ⟨xs, hq⟩, q⟩ | ⟨z, e, q⟩
  · subst e
    cases r1
    obtain ⟨its, rv, p, hz⟩ := I1.list hq
    refine wpAny_pyIter_list p.isList ?_
    refine ⟨s1.heap.objs.size, [s1.heap.objs.size], _, _, H1, rfl, I1.kept (t' := s1.toks) fun b o e => Heap.get?_push_of_some _ e, turn_list a _, ⟨_, Heap.get?_push_size _ rfl, rfl, rfl⟩, fun b hb => ?_, q⟩
    have e : b = s1.heap.objs.size := by simpa using hb
    subst e
    exact I1.fpOk (Nat.le_refl _) (I1.hok.fresh (Nat.le_refl _))
  · subst e
    cases r1
    obtain ⟨its, rv, p, hz⟩ := I1.tuple hq
    refine wpAny_pyIter_tuple (show s1.heap.IsTuple a its.toArray from p) ?_
    refine ⟨s1.heap.objs.size, [s1.heap.objs.size], _, _, H1, rfl, I1.kept (t' := s1.toks) fun b o e => Heap.get?_push_of_some _ e, turn_tuple a _, ⟨_, Heap.get?_push_size _ rfl, rfl, rfl⟩, fun b hb => ?_, q⟩
    have e : b = s1.heap.objs.size := by simpa using hb
    subst e
    exact I1.fpOk (Nat.le_refl _) (I1.hok.fresh (Nat.le_refl _))
  · subst e
    obtain ⟨t, rfl⟩ := r1
    cases ha : z.cps.all (· < 128)
    · exact wpAny_pyIter_wide ha (pi_one (tk := s1.toks) I1 _ (turn_str _ z t "str_iterator" (.inr rfl)) ⟨_, Heap.get?_push_size _ rfl, rfl, rfl⟩ q)
    · exact wpAny_pyIter_ascii ha (pi_one (tk := s1.toks) I1 _ (turn_str _ z t "str_ascii_iterator" (.inl rfl)) ⟨_, Heap.get?_push_size _ rfl, rfl, rfl⟩ q)
theorem pi_seqD (h : PED X W e f lk) : PID X W tg e (oSeq f) lk := by
  obtain ⟨te, pe, de⟩ := h
  exact ⟨_, pi_any pe, tid_seq de⟩
theorem pi_rng1D (hg : Gl X "range") (hm : X.mg "range" = none) (ha : PED X W a fa la) (hs : starEach [a] X.env = [(false, eval a X.env)] := by rfl) : PID X W tg (.Call (.Name "range" p) [a] [] pos) (oRange (aCons fa aNil)) [] := by
  obtain ⟨ta, pa, da⟩ := pa_consD (es := []) ha pa_nilD hs
  exact ⟨_, pi_range1 hg hm pa hs, tid_rng1 (len_cons len_nil) da⟩
theorem pi_rng2D (hg : Gl X "range") (hm : X.mg "range" = none) (ha : PED X W a fa la) (hb : PED X W b fb lb) (hs : starEach [a, b] X.env = [(false, eval a X.env), (false, eval b X.env)] := by rfl) (hs2 : starEach [b] X.env = [(false, eval b X.env)] := by rfl) :
    PID X W tg (.Call (.Name "range" p) [a, b] [] pos) (oRange (aCons fa (aCons fb aNil))) [] := by
  obtain ⟨ta, pa, da⟩ := pa_consD (es := [b]) ha (pa_consD (es := []) hb pa_nilD hs2) (by rw [hs, hs2])
  exact ⟨_, pi_range2 hg hm pa hs hs2, tid_rng2 (len_cons (len_cons len_nil)) da⟩
end
end FD

namespace FD
open PySem L2 PyProof.Rows PySem.Spec
/-! ### statements, by their rules -/
section
variable {X : Cx} {W : WX} {e a b c iter tg : Expr} {f fa fb : Env → Out Dt} {fl : Env → Out (List Dt)} {ft : Env → Out Bool} {lk la lb : List Nat} {pos p : Pos} {st : Stmt} {rest body els : List Stmt} {g h : Env → SOut} {u : Dt → Env → Option Env}
theorem s_nil : PSsD X W [] sNext := ⟨_, pss_nil, tsd_next⟩
theorem s_cons (h1 : PSD X W st g) (h2 : PSsD X W rest h) : PSsD X W (st :: rest) (sSeq g h) := by
  obtain ⟨t, p, d⟩ := h1
  obtain ⟨t', p', d'⟩ := h2
  exact ⟨_, pss_cons p p', tsd_seq d d'⟩
theorem s_one (h1 : PSD X W st g) : PSsD X W [st] g := by
  obtain ⟨t, p, d⟩ := h1
  exact ⟨_, pss_one p, d⟩
theorem s_pass : PSD X W (.Pass pos) sNext := ⟨_, ps_pass, tsd_next⟩
theorem s_brk : PSD X W (.Break pos) sBrk := ⟨_, ps_break, tsd_brk⟩
theorem s_cont : PSD X W (.Continue pos) sCont := ⟨_, ps_continue, tsd_cont⟩
theorem s_ret (h : PED X W e f lk) : PSD X W (.Return (some e) pos) (sRet f) := by
  obtain ⟨t, p, d⟩ := h
  exact ⟨_, ps_ret p, tsd_ret d⟩
theorem s_retN : PSD X W (.Return none pos) sRetN := ⟨_, ps_retN, tsd_retN⟩
theorem s_if (hc : PTD X W c ft lk) (ha : PSsD X W body g) (hb : PSsD X W els h) : PSD X W (.If c body els pos) (sIf ft g h) := by
  obtain ⟨t, p, d⟩ := hc
  obtain ⟨t1, p1, d1⟩ := ha
  obtain ⟨t2, p2, d2⟩ := hb
  exact ⟨_, ps_if p p1 p2, tsd_if d d1 d2⟩
theorem s_drop (h : PED X W e f lk) (hs : swapsWith e none pos.line X.env = pure false := by rfl) : PSD X W (.Expr e pos) (sDrop f) := by
  obtain ⟨t, p, d⟩ := h
  exact ⟨_, ps_expr p hs, tsd_drop d⟩
theorem s_set (i : Nat) {x : Str} {pos' : Pos} (hN : X.N.Nodup) (h : PED X W e f lk) (hi : X.N[i]? = some x := by rfl) (hx : Loc X.env.scope x := by first | exact Or.inl rfl | exact Or.inr rfl) (hs : swapsWith e (some (.Name x pos')) pos.line X.env = pure false := by rfl)
    (hf : X.fn x = true ∨ X.env.scope.names.lookup x = some .local := by first | exact .inl rfl | exact .inr rfl | assumption) : PSD X W (.Assign [.Name x pos'] e pos) (sSet i f lk) := by
  obtain ⟨t, p, d⟩ := h
  exact ⟨_, ps_set hN hi hx p hs hf, tsd_set d⟩
theorem s_setL (i : Nat) {x : Str} {pos' : Pos} (hN : X.N.Nodup) (h : PLD X W e fl lk) (hi : X.N[i]? = some x := by rfl) (hx : Loc X.env.scope x := by first | exact Or.inl rfl | exact Or.inr rfl) (hs : swapsWith e (some (.Name x pos')) pos.line X.env = pure false := by rfl)
    (hf : X.fn x = true ∨ X.env.scope.names.lookup x = some .local := by first | exact .inl rfl | exact .inr rfl | assumption) : PSD X W (.Assign [.Name x pos'] e pos) (sSetL i fl lk) := by
  obtain ⟨t, p, d⟩ := h
  exact ⟨_, ps_set hN hi hx p hs hf, tsd_setL d⟩
/-- x.append(e), x an own list -/
theorem s_append (i : Nat) {x : Str} {p1 p2 p3 : Pos} (h : PED X W e f lk) (hN : X.N[i]? = some x := by rfl) (hv : Vis X.env.scope x := by first | exact Or.inl rfl | exact Or.inr (Or.inl rfl) | exact Or.inr (Or.inr rfl)) (hd : (x == ("__debug__" : Str)) = false := by decide)
    (hcd : (x == ("__classdict__" : Str)) = false := by decide) (hs : starEach [e] X.env = (false, eval e X.env) :: starEach [] X.env := by rfl) (hbase : attributeBase (.Name x p1) "append" X.env (eval (.Name x p1) X.env) = eval (.Name x p1) X.env := by rfl)
    (hfew : ((backTo p3 (starEach [e] X.env)).all (fun x => !x.1) && (backToKw p3 (keywordEach [] X.env)).all (fun x => x.1.isSome)
      && decide (([e] : List Expr).length + ([] : List Keyword).length + (if ([] : List Keyword).isEmpty then 0 else 1) < 30)) = true := by rfl) (hline : (p2.endLine == p3.line) = true := by rfl) (hsw : swapsWith (.Call (.Attribute (.Name x p1) "append" p2) [e] [] p3) none pos.line X.env = pure false := by rfl) : PSD X W (.Expr (.Call (.Attribute (.Name x p1) "append" p2) [e] [] p3) pos) (sAppend i f lk) := by
  obtain ⟨t, p, d⟩ := h
  exact ⟨_, ps_expr (pe_bm PySem.F.plainAttrs_list PySem.F.slot_list_append PySem.F.type_list_append mt_append (pe_var hN hv hd hcd) (pa_cons p pa_nil hs) hbase hfew hline hs rfl) hsw, tsd_append d⟩
theorem g_name (i : Nat) {x : Str} (hN : X.N.Nodup) (hi : X.N[i]? = some x := by rfl) (hx : Loc X.env.scope x := by first | exact Or.inl rfl | exact Or.inr rfl) (hf : X.fn x = true ∨ X.env.scope.names.lookup x = some .local := by first | exact .inl rfl | exact .inr rfl | assumption) : PGD X (.Name x pos) (uName i) [i] :=
  ⟨_, pg_name hN hi hx hf, tgd_name⟩
theorem gs_nil : PGsD X [] uNil [] := ⟨_, pgs_nil, tgsd_nil⟩
theorem gs_cons {es : List Expr} {us : List Dt → Env → Option Env} {S T : List Nat} (h1 : PGD X e u S) (h2 : PGsD X es us T) (hs : (assignEach (e :: es) X.env).map (·.2) = assign e X.env :: (assignEach es X.env).map (·.2) := by rfl) : PGsD X (e :: es) (uCons u us) (S ++ T) := by
  obtain ⟨t, p, d⟩ := h1
  obtain ⟨t', p', d'⟩ := h2
  exact ⟨_, pgs_cons p p' hs, tgsd_cons d d'⟩
theorem ulen_nil : ∀ ds ρ ρ', uNil ds ρ = some ρ' → ds.length = 0 := fun ds ρ ρ' h => by
  cases ds with
  | nil => rfl
  | cons d ds => cases h
theorem ulen_cons {us : List Dt → Env → Option Env} {n : Nat} (h : ∀ ds ρ ρ', us ds ρ = some ρ' → ds.length = n) : ∀ ds ρ ρ', uCons u us ds ρ = some ρ' → ds.length = n + 1 := fun ds ρ ρ' e => by
  cases ds with
  | nil => cases e
  | cons d ds =>
    have e' : (u d ρ).bind (fun ρ' => us ds ρ') = some ρ' := e
    cases e1 : u d ρ with
    | none => rw [e1] at e'; cases e'
    | some ρ1 =>
      rw [e1] at e'
      rw [List.length_cons, h _ _ _ e']
theorem g_tup {es : List Expr} {k n : Nat} {us : List Dt → Env → Option Env} {S : List Nat} (hc : X.calm = true) (h : PGsD X es us S) (hn : ∀ ds ρ ρ', us ds ρ = some ρ' → ds.length = n) (hl : (assignEach es X.env).length = n := by rfl) (hst : (assignEach es X.env).findIdx? (·.1) = none := by rfl) :
    PGD X (.Tuple es k pos) (uTup us) S := by
  obtain ⟨t, p, d⟩ := h
  exact ⟨_, pg_tup hc p hl hst, tgd_tup d hn⟩
theorem s_asg {S : List Nat} (ha : PED X W e f lk) (hg : PGD X tg u S) (hs : swapsWithSole [tg] e pos.line X.env = pure false := by rfl) (hw : swappedStores [tg] e X.env = pure none := by rfl) (h1 : (assignEach [tg] X.env).map (·.2) = [assign tg X.env] := by rfl) :
    PSD X W (.Assign [tg] e pos) (sAsg u f lk) := by
  obtain ⟨t, p, d⟩ := ha
  obtain ⟨t', p', d'⟩ := hg
  exact ⟨_, ps_asg p p' hs hw h1, tsd_asg d d'⟩
/-- x[k] = e, x an own list -/
theorem s_setIx (i : Nat) {x : Str} {p1 p2 : Pos} (h : PED X W e f lk) (hi : PED X W a fa la) (hN : X.N[i]? = some x := by rfl) (hv : Vis X.env.scope x := by first | exact Or.inl rfl | exact Or.inr (Or.inl rfl) | exact Or.inr (Or.inr rfl)) (hd : (x == ("__debug__" : Str)) = false := by decide)
    (hcd : (x == ("__classdict__" : Str)) = false := by decide) (ha : ∀ v, assign (.Subscript (.Name x p1) a p2) X.env v = (do
      let ov ← holding [v] (eval (.Name x p1) X.env)
      let iv ← holding [v, ov] (eval a X.env)
      standAt p2
      holding [v, ov, iv] (setItem ov iv v)
      release [v, ov, iv] []) := by intro _; rfl) (hs : swapsWithSole [.Subscript (.Name x p1) a p2] e pos.line X.env = pure false := by rfl) (hw : swappedStores [.Subscript (.Name x p1) a p2] e X.env = pure none := by rfl)
    (h1 : (assignEach [.Subscript (.Name x p1) a p2] X.env).map (·.2) = [assign (.Subscript (.Name x p1) a p2) X.env] := by rfl) : PSD X W (.Assign [.Subscript (.Name x p1) a p2] e pos) (sSetIx i fa f lk) := by
  obtain ⟨t, p, d⟩ := h
  obtain ⟨t', p', d'⟩ := hi
  exact ⟨_, ps_asg p (pg_sub (pe_var hN hv hd hcd) p' set_list ha) hs hw h1, tsd_setIx d d'⟩
theorem s_for {S : List Nat} (hp : PassesOwn (model X.prog X.w) X.A X.env X.xe) (hc : X.calm = true) (hi : PID X W tg iter fl lk) (hg : PGD X tg u S) (hb : PSsD X W body g) (hs : ∀ x, foldedSetIterable iter X.env x = pure x := by intro _; rfl) : PSD X W (.For tg iter body [] pos) (sFor u fl lk g) := by
  obtain ⟨t, p, d⟩ := hi
  obtain ⟨t', p', d'⟩ := hg
  obtain ⟨t2, p2, d2⟩ := hb
  exact ⟨_, ps_for hp hc p p' p2 hs, tsd_for d d' d2⟩
theorem s_while (hp : PassesOwn (model X.prog X.w) X.A X.env X.xe) (hc : PTD X W c ft lk) (hb : PSsD X W body g) : PSD X W (.While c body [] pos) (sWhile ft g) := by
  obtain ⟨t, p, d⟩ := hc
  obtain ⟨t2, p2, d2⟩ := hb
  exact ⟨_, ps_while hp p p2, tsd_while d d2⟩
end
/-! ### defs -/
/-- what a def promises: its meaning φ -/
def spD (K : PySem.W.Frag) (n : Nat) (φ : List Dt → Out Dt) : Sp := fun vs H Q E => ∃ (ds : List Dt) (A : Ad), Reps K H A ds vs ∧ ds.length = n ∧ (∀ a, A a → Mut (H a)) ∧ match φ ds with
  | .ok d => ∀ v H', Same H H' → Rep K H' A d v → Q v H'
  | .exc x => ∀ c od H', Same H H' → ExOk K H' x c od → E c od H'
  | .bad => False
/-- from a body's meaning to the def's -/
def runD (n : Nat) (g : Env → SOut) (ds : List Dt) : Out Dt := match g (ds.map (fun d => some (Lo.sh d)) ++ List.replicate (n - ds.length) none) with
  | .ok .nx _ => .ok .non
  | .ok (.rt d) _ => .ok d
  | .exc x _ => .exc x
  | _ => .bad
section
variable {P : Program} {w : World} {K : PySem.W.Frag} {mg : Str → Option Value} {base : Heap} {H : Hp} {A : Ad}
theorem start_ok {N : List Str} {ds : List Dt} {vs : List V} (r : Reps K H A ds vs) (ha : ∀ a, A a → Mut (H a)) : StOk K H A H (ds.map (fun d => some (Lo.sh d)) ++ List.replicate (N.length - ds.length) none) (L2.start N vs) := by
  have own : ∀ i a, ¬ OwnAt (ds.map (fun d => some (Lo.sh d)) ++ List.replicate (N.length - ds.length) none) (L2.start N vs) i a := by
    rintro i a ⟨l, e, ho, _⟩
    by_cases h : i < ds.length
    · rw [List.getElem?_append_left (by simpa using h), List.getElem?_map, List.getElem?_eq_getElem h] at e
      cases e
      cases ho
    · rw [List.getElem?_append_right (by simpa using Nat.le_of_not_lt h), List.getElem?_replicate] at e
      split at e <;> cases e
  have av : ∀ lk a, Av A (ds.map (fun d => some (Lo.sh d)) ++ List.replicate (N.length - ds.length) none) (L2.start N vs) lk a → A a := by
    rintro lk a (z | ⟨i, _, z⟩)
    · exact z
    · exact absurd z (own i a)
  have cases' : ∀ (i : Nat) (l : Lo), (ds.map (fun d => some (Lo.sh d)) ++ List.replicate (N.length - ds.length) none)[i]? = some (some l) → ∃ d, ds[i]? = some d ∧ l = .sh d := fun i l e => by
    by_cases h : i < ds.length
    · rw [List.getElem?_append_left (by simpa using h), List.getElem?_map, List.getElem?_eq_getElem h] at e
      cases e
      exact ⟨_, List.getElem?_eq_getElem h, rfl⟩
    · rw [List.getElem?_append_right (by simpa using Nat.le_of_not_lt h), List.getElem?_replicate] at e
      split at e <;> cases e
  refine ⟨Same.refl H, ha, by unfold L2.start; simp [r.length], fun i d e => ?_, fun i es e => ?_, fun i ks es e => ?_, fun i j a h => absurd h (own i a)⟩
  · obtain ⟨d', e1, e2⟩ := cases' i _ e
    cases e2
    obtain ⟨v, e3, r3⟩ := r.get e1
    refine ⟨v, ?_, r3.anti fun a z => av [] a z⟩
    unfold L2.start
    have hi : i < vs.length := (List.getElem?_eq_some_iff.mp e3).1
    rw [List.getElem?_append_left (by simpa using hi), List.getElem?_map, e3]
    rfl
  · obtain ⟨d', _, e2⟩ := cases' i _ e
    cases e2
  · obtain ⟨d', _, e2⟩ := cases' i _ e
    cases e2
/-- a def as it stands: its promise by the meaning φ, and how it is called -/
structure Cl (P : Program) (w : World) (K : PySem.W.Frag) (mg : Str → Option Value) (base : Heap) (x : Str) (k : Nat) (n : Nat) (dd : List Dt) (φ : List Dt → Out Dt) : Prop where
  ex : ∃ (f : Addr) (fd : FuncData) (ps : List Str) (ds : List Value) (dvs : List V), FnOk P w K mg base (L2.CX P w) k f fd ps (spD K n φ) ∧ mg x = some (.ref f) ∧ PySem.W.keepIn K (.ref f) = true ∧ Binds K fd ps ds ∧ Vals dvs ds ∧ ∀ H A, Reps K H A dd dvs
theorem def_ok {x qual : Str} {st : Stmt} {f : Addr} {fd : FuncData} {N ps : List Str} {k : Nat} {g : Env → SOut} (F : Fun K x qual st f fd) (S : FnScope N ps (defScope st))
    (hb : ∀ (cdv : Value) (A : Around) (outer : List PySem.Env) (s : Shared) (H : Hp) (E : XK), Room k (A.deeper (envOfC qual (defScope st) s.heap.objs.size f cdv)) →
      PSsD (cxOf (L2.CX P w) P w K mg base N qual (defScope st) f cdv A outer s H E) (fun c d _ H' => E c d H') (defBody st) g) :
    FnOk P w K mg base (L2.CX P w) (k + 1) f fd ps (spD K ps.length (runD N.length g)) := by
  refine F.okX S (fun vs H Q E h => ?_) (fun cdv A outer s H vs Q E hr h => ?_)
  · obtain ⟨ds, A, r, hl, _⟩ := h
    rw [r.length, hl]
  · obtain ⟨ds, A', r, hl, ha, h⟩ := h
    obtain ⟨ts, hp, hd⟩ := hb cdv A outer s H E hr
    refine ⟨ts, hp, ?_⟩
    refine hd H A' _ _ H _ (start_ok r ha) ?_
    unfold runD at h
    cases e : g (ds.map (fun d => some (Lo.sh d)) ++ List.replicate (N.length - ds.length) none) with
    | ok fl ρ =>
      rw [e] at h
      cases fl with
      | nx => exact fun σ H' s' => h .non H' s'.same rfl
      | rt d => exact fun v H' s' r' => h v H' s' r'
      | bk => exact h.elim
      | ct => exact h.elim
    | exc x ρ =>
      rw [e] at h
      exact fun σ H' c od s' r' => h c od H' s'.same r'
    | bad => rw [e] at h; exact h.elim
end
/-! ### calls -/
section
variable {X : Cx} {W : WX} {e : Expr} {es : List Expr} {fs : Env → Out (List Dt)} {lk : List Nat} {p pos : Pos} {φ : List Dt → Out Dt}
def eCall (φ : List Dt → Out Dt) (n : Nat) (dd : List Dt) (f : Env → Out (List Dt)) : Env → Out Dt := fun ρ => (f ρ).bind fun ds => if (ds ++ dd).length = n then φ (ds ++ dd) else .bad
theorem ted_call {K : PySem.W.Frag} {ta : TA} {n : Nat} {dd : List Dt} {dvs : List V} (hd : ∀ H A, Reps K H A dd dvs) (ha : TAD K W ta fs lk) : TED K W (tCallSD (spD K n φ) dvs (WE W) ta) (eCall φ n dd fs) lk := by
  intro H0 A0 ρ σ H Q s h
  refine ha _ _ _ _ _ _ s (h.seq fun ds _ h1 vs H1 s1 r1 => ?_)
  split at h1
  · rename_i hl
    refine ⟨ds ++ dd, Av A0 ρ σ lk, r1.append (hd _ _), hl, fun a z => (s.grow s1).avMut z, ?_⟩
    cases eo : φ (ds ++ dd) with
    | ok d => rw [eo] at h1; exact fun v H' s' r => h1 v H' (s1.trans s') r
    | exc x => rw [eo] at h1; exact fun c od H' s' r => h1 c od H' (s1.trans s') r
    | bad => rw [eo] at h1; exact h1
  · exact False.elim h1
theorem pd_call {x : Str} {k j n : Nat} {dd : List Dt} (c : Cl X.prog X.w X.K X.mg X.base x k n dd φ) (tk : Takes X W) (hr : Room j X.A) (hk : k ≤ j) (hg : Gl X x) (ha : PAD X W (e :: es) fs lk) (hdb : (x == ("__debug__" : Str)) = false := by decide)
    (he : starEach (e :: es) X.env = (false, eval e X.env) :: starEach es X.env := by rfl) (hpl : (backTo pos (starEach es X.env)).any (·.1) = false := by rfl) : PED X W (.Call (.Name x p) (e :: es) [] pos) (eCall φ n dd fs) lk := by
  obtain ⟨f, fd, ps, ds, dvs, F, hm, kp, hb, hv, hd⟩ := c.ex
  obtain ⟨ta, pa, da⟩ := ha
  exact ⟨_, pe_callSD F (hr.mono hk) hg hm kp hb hv (fun σ => passAt tk σ) pa hdb he hpl, ted_call hd da⟩
/-! built-in functions, by values -/
def CaV (K : PySem.W.Frag) (r : List V → Hp → VK → Prop) (g : List Dt → Option Dt) : Prop := ∀ (H : Hp) (A : Ad) (ds : List Dt) (d : Dt) (vs : List V) (Q : VK), (∀ c, A c → Mut (H c)) → Reps K H A ds vs → g ds = some d → RE K A H Q d → r vs H Q
def eB (g : List Dt → Option Dt) (f : Env → Out (List Dt)) : Env → Out Dt := fun ρ => (f ρ).bind fun ds => ofO (g ds)
theorem ted_b {K : PySem.W.Frag} {ta : TA} {r : List V → Hp → VK → Prop} {g : List Dt → Option Dt} (hr : CaV K r g) (ha : TAD K W ta fs lk) : TED K W (tCB r ta) (eB g fs) lk := by
  intro H0 A0 ρ σ H Q s h
  refine ha _ _ _ _ _ _ s (h.seq fun ds _ h1 vs H1 s1 r1 => ?_)
  obtain ⟨d, e, q⟩ := ofO_seq h1
  exact hr H1 _ ds d vs Q (fun c z => (s.grow s1).avMut z) r1 e (RE.grow s1 q)
/-- .. a scalar comes: nothing is lent -/
theorem ted_bs {K : PySem.W.Frag} {ta : TA} {r : List V → Hp → VK → Prop} {g : List Dt → Option Dt} (hr : CaV K r g) (hg : ∀ ds d, g ds = some d → d.scal = true) (ha : TAD K W ta fs lk) : TED K W (tCB r ta) (eB g fs) [] := by
  intro H0 A0 ρ σ H Q s h
  refine ha _ _ _ _ _ _ s (h.seq fun ds _ h1 vs H1 s1 r1 => ?_)
  obtain ⟨d, e, q⟩ := ofO_seq h1
  exact hr H1 NoA ds d vs Q (fun c z => False.elim z) (r1.anti fun a z => False.elim z) e fun v H' s' r => q v H' (s1.trans s') (r.scal (hg _ _ e))
/-- a list comes -/
def CaL (K : PySem.W.Frag) (r : List V → Hp → VK → Prop) (g : List Dt → Option (List Dt)) : Prop := ∀ (H : Hp) (A : Ad) (ds : List Dt) (es : List Dt) (vs : List V) (Q : VK), Reps K H A ds vs → g ds = some es → (∀ p us, H p = none → Reps K H A es us → Q (.ref p) (upd H p (.lst us))) → r vs H Q
def lB (g : List Dt → Option (List Dt)) (f : Env → Out (List Dt)) : Env → Out (List Dt) := fun ρ => (f ρ).bind fun ds => ofO (g ds)
theorem tld_b {K : PySem.W.Frag} {ta : TA} {r : List V → Hp → VK → Prop} {g : List Dt → Option (List Dt)} (hr : CaL K r g) (ha : TAD K W ta fs lk) : TLD K W (tCB r ta) (lB g fs) lk := by
  intro H0 A0 ρ σ H Q s h
  refine ha _ _ _ _ _ _ s (h.seq fun ds _ h1 vs H1 s1 r1 => ?_)
  obtain ⟨d, e, q⟩ := ofO_seq h1
  exact hr H1 _ ds d vs Q r1 e fun p us hp r => q p us _ (s1.trans (Same.new hp)) (s1.free hp) upd_same ((Reps.fresh hp _ _ r).same (Same.new hp))
/-! len -/
def gLen : List Dt → Option Dt
  | [.tup ds] => some (.int ds.length)
  | [.lst ds] => some (.int ds.length)
  | [.fls ds] => some (.int ds.length)
  | [.str s] => if s.length ≤ 16777216 then some (.int s.length) else none
  | _ => none
@[simp] theorem gLen_tup (ds : List Dt) : gLen [.tup ds] = some (.int ds.length) := rfl
@[simp] theorem gLen_lst (ds : List Dt) : gLen [.lst ds] = some (.int ds.length) := rfl
@[simp] theorem gLen_fls (ds : List Dt) : gLen [.fls ds] = some (.int ds.length) := rfl
@[simp] theorem gLen_str (s : Str) : gLen [.str s] = if s.length ≤ 16777216 then some (.int s.length) else none := rfl
theorem SqL.ofF {K : PySem.W.Frag} {H : Hp} {A : Ad} {a : Addr} {vs : List V} (h : (¬ A a ∧ ∃ o, H a = some (.frz o (.lst vs))) ∨ KLst K a vs) : SqL K H a vs := by
  rcases h with ⟨_, o, h⟩ | h
  · exact .inl (.inr ⟨o, h⟩)
  · exact .inr h
theorem cav_len {K : PySem.W.Frag} : CaV K (fun xs H Q => ∃ x n, xs = [x] ∧ LenV K x H n ∧ Q (.int n) H) gLen := by
  intro H A ds d vs Q ha r e q
  unfold gLen at e
  split at e
  · obtain ⟨v, rfl, rr⟩ := reps1 r
    cases e
    unfold Rep at rr
    obtain ⟨a, vs, rfl, h1, h2⟩ := rr
    exact ⟨_, vs.length, rfl, .inr ⟨vs, SqT.of' h1, rfl⟩, RE.now q (by rw [h2.length]; rfl)⟩
  · obtain ⟨v, rfl, rr⟩ := reps1 r
    cases e
    unfold Rep at rr
    obtain ⟨a, vs, rfl, _, h1, h2⟩ := rr
    exact ⟨_, vs.length, rfl, .inl ⟨vs, SqL.of h1, rfl⟩, RE.now q (by rw [h2.length]; rfl)⟩
  · obtain ⟨v, rfl, rr⟩ := reps1 r
    cases e
    unfold Rep at rr
    obtain ⟨a, vs, rfl, h1, h2⟩ := rr
    exact ⟨_, vs.length, rfl, .inl ⟨vs, SqL.ofF h1, rfl⟩, RE.now q (by rw [h2.length]; rfl)⟩
  · rename_i s
    obtain ⟨v, rfl, rr⟩ := reps1 r
    obtain ⟨h1, rfl⟩ := some_ite e
    have e1 : v = .str s := rr
    subst e1
    exact ⟨_, s.length, rfl, ⟨by rw [sizeLine_eq]; exact h1, rfl⟩, RE.now q rfl⟩
  · cases e
theorem gLen_scal : ∀ ds d, gLen ds = some d → d.scal = true := fun ds d e => by
  unfold gLen at e
  split at e
  · cases e; rfl
  · cases e; rfl
  · cases e; rfl
  · obtain ⟨_, rfl⟩ := some_ite e; rfl
  · cases e
theorem pd_len (hg : Gl X "len") (hm : X.mg "len" = none) (ha : PAD X W [e] fs lk) (he : starEach [e] X.env = (false, eval e X.env) :: starEach [] X.env := by rfl) : PED X W (.Call (.Name "len" p) [e] [] pos) (eB gLen fs) [] := by
  obtain ⟨ta, pa, da⟩ := ha
  exact ⟨_, pe_callB call_len hg hm boot_len pa (by decide) (by decide) he rfl, ted_bs cav_len gLen_scal da⟩
/-! int, abs -/
def gInt : List Dt → Option Dt
  | [.int i] => some (.int i)
  | [.bl b] => some (.int (if b then 1 else 0))
  | _ => none
@[simp] theorem gInt_int (i : Int) : gInt [.int i] = some (.int i) := rfl
@[simp] theorem gInt_bl (b : Bool) : gInt [.bl b] = some (.int (if b then 1 else 0)) := rfl
theorem cav_int {K : PySem.W.Frag} : CaV K (fun xs H Q => (∃ i, xs = [.int i] ∧ Q (.int i) H) ∨ ∃ k, xs = [.bl k] ∧ Q (.int (if k then 1 else 0)) H) gInt := by
  intro H A ds d vs Q ha r e q
  unfold gInt at e
  split at e
  · obtain ⟨v, rfl, rr⟩ := reps1 r
    cases e
    have e1 : v = .int _ := rr
    subst e1
    exact .inl ⟨_, rfl, RE.now q rfl⟩
  · obtain ⟨v, rfl, rr⟩ := reps1 r
    cases e
    have e1 : v = .bl _ := rr
    subst e1
    exact .inr ⟨_, rfl, RE.now q rfl⟩
  · cases e
theorem gInt_scal : ∀ ds d, gInt ds = some d → d.scal = true := fun ds d e => by
  unfold gInt at e
  split at e <;> first | (cases e; rfl) | cases e
theorem pd_intc (hg : Gl X "int") (hm : X.mg "int" = none) (ha : PAD X W [e] fs lk) (he : starEach [e] X.env = (false, eval e X.env) :: starEach [] X.env := by rfl) : PED X W (.Call (.Name "int" p) [e] [] pos) (eB gInt fs) [] := by
  obtain ⟨ta, pa, da⟩ := ha
  exact ⟨_, pe_callTy call_int1 hg hm PyProof.Rows.boot_int pa (by decide) (by decide) he rfl, ted_bs cav_int gInt_scal da⟩
def gAbs : List Dt → Option Dt
  | [.int i] => some (.int (if i < 0 then -i else i))
  | _ => none
@[simp] theorem gAbs_int (i : Int) : gAbs [.int i] = some (.int (if i < 0 then -i else i)) := rfl
theorem cav_abs {K : PySem.W.Frag} : CaV K (fun xs H Q => ∃ i, xs = [.int i] ∧ Q (.int (if i < 0 then -i else i)) H) gAbs := by
  intro H A ds d vs Q ha r e q
  unfold gAbs at e
  split at e
  · obtain ⟨v, rfl, rr⟩ := reps1 r
    cases e
    have e1 : v = .int _ := rr
    subst e1
    exact ⟨_, rfl, RE.now q rfl⟩
  · cases e
theorem gAbs_scal : ∀ ds d, gAbs ds = some d → d.scal = true := fun ds d e => by
  unfold gAbs at e
  split at e <;> first | (cases e; rfl) | cases e
theorem pd_abs (hg : Gl X "abs") (hm : X.mg "abs" = none) (ha : PAD X W [e] fs lk) (he : starEach [e] X.env = (false, eval e X.env) :: starEach [] X.env := by rfl) : PED X W (.Call (.Name "abs" p) [e] [] pos) (eB gAbs fs) [] := by
  obtain ⟨ta, pa, da⟩ := ha
  exact ⟨_, pe_callB call_abs hg hm PyProof.Rows.boot_abs pa (by decide) (by decide) he rfl, ted_bs cav_abs gAbs_scal da⟩
/-! gcd -/
def gGcd : List Dt → Option Dt
  | [.int i, .int j] => some (.int ((Nat.gcd i.natAbs j.natAbs : Nat) : Int))
  | _ => none
@[simp] theorem gGcd_int (i j : Int) : gGcd [.int i, .int j] = some (.int ((Nat.gcd i.natAbs j.natAbs : Nat) : Int)) := rfl
theorem cav_gcd {K : PySem.W.Frag} : CaV K rGcd gGcd := by
  intro H A ds d vs Q ha r e q
  unfold gGcd at e
  split at e
  · obtain ⟨v, u, rfl, r1, r2⟩ := reps2 r
    cases e
    have e1 : v = .int _ := r1
    have e2 : u = .int _ := r2
    subst e1 e2
    exact ⟨_, _, rfl, RE.now q rfl⟩
  · cases e
theorem gGcd_scal : ∀ ds d, gGcd ds = some d → d.scal = true := fun ds d e => by
  unfold gGcd at e
  split at e <;> first | (cases e; rfl) | cases e
theorem pd_gcd {x : Str} (hg : Gl X x) (hm : X.mg x = some (.builtin "math.gcd")) (ha : PAD X W (e :: es) fs lk) (hdb : (x == ("__debug__" : Str)) = false := by decide)
    (he : starEach (e :: es) X.env = (false, eval e X.env) :: starEach es X.env := by rfl) (hpl : (backTo pos (starEach es X.env)).any (·.1) = false := by rfl) : PED X W (.Call (.Name x p) (e :: es) [] pos) (eB gGcd fs) [] := by
  obtain ⟨ta, pa, da⟩ := ha
  exact ⟨_, pe_callBfun cr_gcd hg hm pa hdb he hpl, ted_bs cav_gcd gGcd_scal da⟩
/-! isinstance of data and a built-in type -/
def Dt.tyN : Dt → Option String
  | .non => some "NoneType" | .bl _ => some "bool" | .int _ => some "int" | .str _ => some "str" | .tup _ => some "tuple" | .lst _ => some "list" | .dic _ _ => some "dict"
  | _ => none
def gIsi : List Dt → Option Dt
  | [d, .ty n] => d.tyN.bind fun t => (kitB t n).map fun b => .bl b
  | _ => none
end
end FD

namespace FD
open PySem L2 PyProof.Rows PySem.Spec
/-! ### items -/
def gIx : Dt → Dt → Option Dt
  | .tup ds, .int i => atI ds i
  | .lst ds, .int i => atI ds i
  | .fls ds, .int i => atI ds i
  | .str s, .int i => if s.length ≤ 16777216 then (atI s.cps.toList i).map fun c => .str ⟨#[c]⟩ else none
  | _, _ => none
@[simp] theorem gIx_tup (ds : List Dt) (i : Int) : gIx (.tup ds) (.int i) = atI ds i := rfl
@[simp] theorem gIx_lst (ds : List Dt) (i : Int) : gIx (.lst ds) (.int i) = atI ds i := rfl
@[simp] theorem gIx_fls (ds : List Dt) (i : Int) : gIx (.fls ds) (.int i) = atI ds i := rfl
@[simp] theorem gIx_str (s : Str) (i : Int) : gIx (.str s) (.int i) = if s.length ≤ 16777216 then (atI s.cps.toList i).map fun c => .str ⟨#[c]⟩ else none := rfl
section
variable {K : PySem.W.Frag} {W : WX} {H0 H H1 : Hp} {A A0 : Ad} {ρ : Env} {σ : L2.St} {lk la lb : List Nat}
theorem Reps.at {ds : List Dt} {vs : List V} {i : Int} {d : Dt} (r : Reps K H A ds vs) (e : atI ds i = some d) : ∃ v, atI vs i = some v ∧ Rep K H A d v := by
  unfold atI at e ⊢
  rw [r.length]
  cases h : ixN ds.length i with
  | none => rw [h] at e; cases e
  | some j =>
    rw [h] at e
    exact r.get e
theorem opv_ix : OpV K (rIx K) gIx := by
  intro H A a b d x y Q _ ra rb e q
  cases a <;> cases b <;> try (cases e; done)
  · rename_i z i
    have e1 : x = .str z := ra
    have e2 : y = .int i := rb
    subst e1 e2
    rw [gIx_str] at e
    split at e
    · rename_i hz
      cases h : atI z.cps.toList i with
      | none => rw [h] at e; cases e
      | some c =>
        rw [h] at e
        cases e
        exact .inr (.inr ⟨z, i, c, rfl, rfl, by rw [sizeLine_eq]; exact hz, h, RE.now q rfl⟩)
    · cases e
  · rename_i ds i
    have e2 : y = .int i := rb
    subst e2
    unfold Rep at ra
    obtain ⟨p, vs, rfl, h1, r⟩ := ra
    obtain ⟨v, e1, r1⟩ := r.at (show atI ds i = some d from e)
    exact .inr (.inl ⟨p, vs, i, v, rfl, rfl, SqT.of' h1, e1, RE.now q r1⟩)
  · rename_i ds i
    have e2 : y = .int i := rb
    subst e2
    unfold Rep at ra
    obtain ⟨p, vs, rfl, _, h1, r⟩ := ra
    obtain ⟨v, e1, r1⟩ := r.at (show atI ds i = some d from e)
    exact .inl ⟨p, vs, i, v, rfl, rfl, SqL.of h1, e1, RE.now q r1⟩
  · rename_i ds i
    have e2 : y = .int i := rb
    subst e2
    unfold Rep at ra
    obtain ⟨p, vs, rfl, h1, r⟩ := ra
    obtain ⟨v, e1, r1⟩ := r.at (show atI ds i = some d from e)
    exact .inl ⟨p, vs, i, v, rfl, rfl, SqL.ofF h1, e1, RE.now q r1⟩
/-- an item of a name's list: the list itself is not lent -/
theorem ted_ixv (i : Nat) {tb : TE} {fb : Env → Out Dt} (hb : TED K W tb fb lb) : TED K W (tOp (rIx K) (tVar i) tb) (e2 (eVar i) fb gIx) [] := by
  intro H0 A0 ρ σ H Q s h
  unfold e2 eVar at h
  split at h
  · rename_i l e
    simp only [Out.bind_ok] at h
    obtain ⟨v, e1, r1⟩ := s.val e
    refine ⟨v, e1, ?_⟩
    refine hb _ _ _ _ _ _ s (h.seq fun b _ h2 v2 H2 s2 r2 => ?_)
    obtain ⟨d, e3, q⟩ := ofO_seq h2
    -- the item avoids all that is own
    have item : ∀ w, Rep K H2 NoA d w → (∃ ds, (l = .ol ds ∧ ∃ k, b = .int k ∧ atI ds k = some d) ∨ (∃ d', l = .sh d') ∨ (∃ ks, l = .od ks ds)) := fun w _ => by
      cases l with
      | sh d' => exact ⟨[], .inr (.inl ⟨d', rfl⟩)⟩
      | ol ds =>
        cases b <;> try (cases e3; done)
        exact ⟨ds, .inl ⟨rfl, _, rfl, e3⟩⟩
      | od ks ds => exact ⟨ds, .inr (.inr ⟨ks, rfl⟩)⟩
    cases l with
    | sh d' =>
      obtain ⟨u, e4, r4⟩ := s.sh i d' e
      rw [e1] at e4
      cases e4
      exact opv_ix (K := K) H2 (Av A0 ρ σ []) d' b d v v2 Q (fun c z => (s.grow s2).avSome z) (r4.same s2) (opv_any e3 r2) e3 (RE.grow s2 q)
    | ol ds =>
      obtain ⟨a, vs, e4, h0, h1, r4⟩ := s.ol i ds e
      rw [e1] at e4
      cases e4
      cases b <;> try (cases e3; done)
      rename_i k _
      have e5 : v2 = .int k := r2
      subst e5
      obtain ⟨w, e6, r6⟩ := (r4.same s2).at (show atI ds k = some d from e3)
      exact .inl ⟨a, vs, k, w, rfl, rfl, SqL.of (s2 _ _ h1), e6, q _ _ s2 r6⟩
    | od ks ds => cases b <;> cases e3
  · exact False.elim h
where
  opv_any {K : PySem.W.Frag} {H : Hp} {A A' : Ad} {a b d : Dt} {v : V} (e : gIx a b = some d) (r : Rep K H A b v) : Rep K H A' b v := by
    cases b with
    | int i => exact r
    | _ => cases a <;> cases e
/-! slices -/
def tyPart (K : PySem.W.Frag) (W : WX) (to : TO) (f : Env → Out (Option Int)) : Prop :=
  ∀ (H0 : Hp) (A0 : Ad) (ρ : Env) (σ : L2.St) (H : Hp) (Q : Option Int → Hp → Prop), StOk K H0 A0 H ρ σ → PostX K W H σ (f ρ) (fun o => ∀ H', Same H H' → Q o H') → to σ H Q
def POD (X : Cx) (W : WX) (e : Option Expr) (f : Env → Out (Option Int)) : Prop := ∃ to, PO X e to ∧ tyPart X.K W to f
def oNone : Env → Out (Option Int) := fun _ => .ok none
def oInt (f : Env → Out Dt) : Env → Out (Option Int) := fun ρ => (f ρ).bind fun d => match d with
  | .int i => .ok (some i)
  | _ => .bad
theorem ty_none : tyPart K W tNoPart oNone := fun H0 A0 ρ σ H Q s h => h H (Same.refl H)
theorem ty_some {te : TE} {f : Env → Out Dt} (ha : TED K W te f la) : tyPart K W (tPart te) (oInt f) := by
  intro H0 A0 ρ σ H Q s h
  refine ha _ _ _ _ _ _ s (h.seq fun d _ h1 v H1 s1 r1 => ?_)
  cases d <;> try (exact False.elim h1)
  exact ⟨_, r1, h1 H1 s1⟩
def cutD (ds : List Dt) (lo hi : Option Int) : List Dt := (ds.drop (HT.sIx ds.length 0 lo)).take (HT.sIx ds.length ds.length hi - HT.sIx ds.length 0 lo)
theorem Reps.cut {ds : List Dt} {vs : List V} {lo hi : Option Int} (r : Reps K H A ds vs) : Reps K H A (cutD ds lo hi) (cutV vs lo hi) := by
  unfold cutD cutV
  rw [r.length]
  exact Reps.take _ (Reps.drop _ r)
def gCutL (a : Dt) (lo hi : Option Int) : Option (List Dt) := match a with
  | .lst ds => some (cutD ds lo hi)
  | .fls ds => some (cutD ds lo hi)
  | _ => none
/-- xs[lo:hi], a list -/
def lCut (f : Env → Out Dt) (fl fh : Env → Out (Option Int)) : Env → Out (List Dt) := fun ρ => (f ρ).bind fun a => (fl ρ).bind fun lo => (fh ρ).bind fun hi => ofO (gCutL a lo hi)
theorem tld_cut {te : TE} {tl th : TO} {f : Env → Out Dt} {fl fh : Env → Out (Option Int)} (ha : TED K W te f la) (hl : tyPart K W tl fl) (hh : tyPart K W th fh) : TLD K W (tSl (rSlL K) te tl th) (lCut f fl fh) la := by
  intro H0 A0 ρ σ H Q s h
  refine ha _ _ _ _ _ _ s (h.seq fun a _ h1 v H1 s1 r1 => ?_)
  refine hl _ _ _ _ _ _ (s.grow s1) ((h1.grow s1).seq fun lo _ h2 H2 s2 => ?_)
  refine hh _ _ _ _ _ _ (s.grow (s1.trans s2)) ((h2.grow s2).seq fun hi _ h3 H3 s3 => ?_)
  obtain ⟨ds, e, q⟩ := ofO_seq h3
  have sA := (s1.trans s2).trans s3
  have r3 := r1.same (s2.trans s3)
  cases a <;> try (cases e; done)
  · cases e
    unfold Rep at r3
    obtain ⟨p, vs, rfl, n, h1, r⟩ := r3
    exact ⟨p, vs, rfl, SqL.of h1, fun c hc => q c _ _ (sA.trans (Same.new hc)) (sA.free hc) upd_same ((Reps.fresh hc _ _ r.cut).same (Same.new hc))⟩
  · cases e
    unfold Rep at r3
    obtain ⟨p, vs, rfl, h1, r⟩ := r3
    exact ⟨p, vs, rfl, SqL.ofF h1, fun c hc => q c _ _ (sA.trans (Same.new hc)) (sA.free hc) upd_same ((Reps.fresh hc _ _ r.cut).same (Same.new hc))⟩
end
section
variable {X : Cx} {W : WX} {e a b c iter tg : Expr} {f fa fb : Env → Out Dt} {lk la lb : List Nat} {pos p p2 : Pos} {lo hi : Option Expr} {fl fh : Env → Out (Option Int)}
theorem pd_ix (ha : PED X W a fa la) (hb : PED X W b fb lb) (hs : PlainIx b := by exact fun _ _ => rfl) : PED X W (.Subscript a b pos) (e2 fa fb gIx) (la ++ lb) := by
  obtain ⟨ta, pa, da⟩ := ha
  obtain ⟨tb, pb, db⟩ := hb
  exact ⟨_, pe_ix ix_seq pa pb hs, ted_2 opv_ix da db⟩
theorem pd_ixv (i : Nat) {x : Str} (hb : PED X W b fb lb) (hN : X.N[i]? = some x := by rfl) (hv : Vis X.env.scope x := by first | exact Or.inl rfl | exact Or.inr (Or.inl rfl) | exact Or.inr (Or.inr rfl)) (hd : (x == ("__debug__" : Str)) = false := by decide)
    (hcd : (x == ("__classdict__" : Str)) = false := by decide) (hs : PlainIx b := by exact fun _ _ => rfl) : PED X W (.Subscript (.Name x p) b pos) (e2 (eVar i) fb gIx) [] := by
  obtain ⟨tb, pb, db⟩ := hb
  exact ⟨_, pe_ix ix_seq (pe_var hN hv hd hcd) pb hs, ted_ixv i db⟩
theorem po_noneD : POD X W none oNone := ⟨_, po_none, ty_none⟩
theorem po_someD (h : PED X W e f la) : POD X W (some e) (oInt f) := by
  obtain ⟨t, p, d⟩ := h
  exact ⟨_, po_some p, ty_some d⟩
theorem pl_cut (he : PED X W e f la) (hl : POD X W lo fl) (hh : POD X W hi fh) : PLD X W (.Subscript e (.Slice lo hi none p2) pos) (lCut f fl fh) la := by
  obtain ⟨t, p, d⟩ := he
  obtain ⟨tl, pl, dl⟩ := hl
  obtain ⟨th, ph, dh⟩ := hh
  exact ⟨_, pe_slice sl_list p pl ph, tld_cut d dl dh⟩
end
/-! ### isinstance -/
section
variable {K : PySem.W.Frag}
theorem tyx_of {H : Hp} {A : Ad} {d : Dt} {v : V} {t : String} (r : Rep K H A d v) (e : d.tyN = some t) : TyX K H v (.type t) := by
  cases d with
  | non => cases e; have e1 : v = .non := r; subst e1; exact .base .non
  | bl b => cases e; have e1 : v = .bl b := r; subst e1; exact .base (.bl b)
  | int b => cases e; have e1 : v = .int b := r; subst e1; exact .base (.int b)
  | str b => cases e; have e1 : v = .str b := r; subst e1; exact .base (.str b)
  | ty _ => cases e
  | cls _ => cases e
  | fls _ => cases e
  | obj _ _ _ => cases e
  | exn _ _ _ _ _ => cases e
  | tup ds =>
    cases e
    unfold Rep at r
    obtain ⟨a, vs, rfl, h | ⟨o, its, n, h1, h2, _⟩, _⟩ := r
    · exact .base (.tup h.2)
    · exact .kTuple h1 h2
  | lst ds =>
    cases e
    unfold Rep at r
    obtain ⟨a, vs, rfl, _, h, _⟩ := r
    exact .base (.lst h)
  | dic ks ds =>
    cases e
    unfold Rep at r
    obtain ⟨a, kvs, rfl, _, h, _⟩ := r
    exact .base (.dK h)
theorem cav_isi : CaV K (rIsi K) gIsi := by
  intro H A ds d vs Q ha r e q
  unfold gIsi at e
  split at e
  · rename_i x n
    obtain ⟨v, u, rfl, r1, r2⟩ := reps2 r
    have e2 : u = .ty n := r2
    subst e2
    cases h1 : x.tyN with
    | none => rw [h1] at e; cases e
    | some t =>
      rw [h1] at e
      cases h2 : kitB t n with
      | none =>
        have e' : (kitB t n).map (fun b => Dt.bl b) = some d := e
        rw [h2] at e'
        cases e'
      | some b =>
        have e' : (kitB t n).map (fun b => Dt.bl b) = some d := e
        rw [h2] at e'
        cases e'
        exact ⟨v, .ty n, .type t, .type n, b, rfl, .ty n, tyx_of r1 h1, kit_ty h2, RE.now q rfl⟩
  · cases e
theorem gIsi_scal : ∀ ds d, gIsi ds = some d → d.scal = true := fun ds d e => by
  unfold gIsi at e
  split at e
  · rename_i x n
    cases h1 : x.tyN with
    | none => rw [h1] at e; cases e
    | some t =>
      rw [h1] at e
      have e' : (kitB t n).map (fun b => Dt.bl b) = some d := e
      cases h2 : kitB t n with
      | none => rw [h2] at e'; cases e'
      | some b => rw [h2] at e'; cases e'; rfl
  · cases e
@[simp] theorem isi_int_int (i : Int) : gIsi [.int i, .ty "int"] = some (.bl true) := by
  have h : kitB "int" "int" = some true := by decide +kernel
  show (kitB "int" "int").map (fun b => Dt.bl b) = _
  rw [h]; rfl
@[simp] theorem isi_int_bool (i : Int) : gIsi [.int i, .ty "bool"] = some (.bl false) := by
  have h : kitB "int" "bool" = some false := by decide +kernel
  show (kitB "int" "bool").map (fun b => Dt.bl b) = _
  rw [h]; rfl
@[simp] theorem isi_bool_int (i : Bool) : gIsi [.bl i, .ty "int"] = some (.bl true) := by
  have h : kitB "bool" "int" = some true := by decide +kernel
  show (kitB "bool" "int").map (fun b => Dt.bl b) = _
  rw [h]; rfl
@[simp] theorem isi_bool_bool (i : Bool) : gIsi [.bl i, .ty "bool"] = some (.bl true) := by
  have h : kitB "bool" "bool" = some true := by decide +kernel
  show (kitB "bool" "bool").map (fun b => Dt.bl b) = _
  rw [h]; rfl
@[simp] theorem isi_tup (i : List Dt) : gIsi [.tup i, .ty "tuple"] = some (.bl true) := by
  have h : kitB "tuple" "tuple" = some true := by decide +kernel
  show (kitB "tuple" "tuple").map (fun b => Dt.bl b) = _
  rw [h]; rfl
@[simp] theorem isi_str (i : Str) : gIsi [.str i, .ty "str"] = some (.bl true) := by
  have h : kitB "str" "str" = some true := by decide +kernel
  show (kitB "str" "str").map (fun b => Dt.bl b) = _
  rw [h]; rfl
@[simp] theorem isi_lst (i : List Dt) : gIsi [.lst i, .ty "list"] = some (.bl true) := by
  have h : kitB "list" "list" = some true := by decide +kernel
  show (kitB "list" "list").map (fun b => Dt.bl b) = _
  rw [h]; rfl
@[simp] theorem isi_dict (k : List Key) (i : List Dt) : gIsi [.dic k i, .ty "dict"] = some (.bl true) := by
  have h : kitB "dict" "dict" = some true := by decide +kernel
  show (kitB "dict" "dict").map (fun b => Dt.bl b) = _
  rw [h]; rfl
end
section
variable {X : Cx} {W : WX} {e a b : Expr} {fs : Env → Out (List Dt)} {lk : List Nat} {pos p : Pos}
theorem pd_isi (hg : Gl X "isinstance") (hm : X.mg "isinstance" = none) (ha : PAD X W [a, b] fs lk) (he : starEach [a, b] X.env = (false, eval a X.env) :: starEach [b] X.env := by rfl) (hpl : (backTo pos (starEach [b] X.env)).any (·.1) = false := by rfl) :
    PED X W (.Call (.Name "isinstance" p) [a, b] [] pos) (eB gIsi fs) [] := by
  obtain ⟨ta, pa, da⟩ := ha
  exact ⟨_, pe_callB call_isi hg hm PyProof.Rows.boot_isinstance pa (by decide) (by decide) he hpl, ted_bs cav_isi gIsi_scal da⟩
end
/-! ### list comprehensions -/
def W0 : WX := fun _ _ _ _ => False
def wipeE (ρ : Env) : List Nat → Env
  | [] => ρ
  | v :: vs => (wipeE ρ vs).set v none
def noEx {α : Type} : Out α → Out α
  | .ok a => .ok a
  | _ => .bad
@[simp] theorem noEx_ok {α : Type} (a : α) : noEx (.ok a) = .ok a := rfl
@[simp] theorem noEx_exc {α : Type} (x : Exn) : noEx (.exc x : Out α) = .bad := rfl
@[simp] theorem noEx_bad {α : Type} : noEx (.bad : Out α) = .bad := rfl
def lcD (u : Dt → Env → Option Env) (t : Env → Out Bool) (f : Env → Out Dt) (ρ : Env) : List Dt → Out (List Dt)
  | [] => .ok []
  | d :: ds => (ofO (u d ρ)).bind fun ρ1 => (noEx (t ρ1)).bind fun b => if b = true then (noEx (f ρ1)).bind fun y => (lcD u t f ρ ds).bind fun r => .ok (y :: r) else lcD u t f ρ ds
def lLc (u : Dt → Env → Option Env) (vs : List Nat) (t : Env → Out Bool) (f : Env → Out Dt) (src : Env → Out (List Dt)) (lk : List Nat) : Env → Out (List Dt) := fun ρ => (src ρ).bind fun ds => if ds.length ≤ 16777216 then lcD u t f (wipeE (frz lk ρ) vs) ds else .bad
section
variable {K : PySem.W.Frag} {W : WX} {H0 H H1 H2 : Hp} {A A0 : Ad} {ρ : Env} {σ : L2.St} {lk la lb : List Nat}
theorem wipe_get {ρ : Env} {i : Nat} {x : Lo} : ∀ {vs : List Nat}, (wipeE ρ vs)[i]? = some (some x) → ρ[i]? = some (some x) ∧ i ∉ vs
  | [], h => ⟨h, by simp⟩
  | v :: vs, h => by
    unfold wipeE at h
    by_cases hi : v = i
    · subst hi
      by_cases hv : v < (wipeE ρ vs).length
      · rw [List.getElem?_set_self hv] at h; cases h
      · rw [List.getElem?_eq_none (by simpa using hv)] at h; cases h
    · rw [List.getElem?_set_ne hi] at h
      obtain ⟨h1, h2⟩ := wipe_get h
      exact ⟨h1, by simp only [List.mem_cons, not_or]; exact ⟨fun e => hi e.symm, h2⟩⟩
theorem wipeE_length (ρ : Env) : ∀ vs : List Nat, (wipeE ρ vs).length = ρ.length
  | [] => rfl
  | v :: vs => by unfold wipeE; rw [List.length_set, wipeE_length ρ vs]
theorem wipeE_ne {ρ : Env} {i : Nat} : ∀ {vs : List Nat}, i ∉ vs → (wipeE ρ vs)[i]? = ρ[i]?
  | [], _ => rfl
  | v :: vs, h => by
    unfold wipeE
    rw [List.getElem?_set_ne fun e => h (by rw [e]; exact List.mem_cons_self)]
    exact wipeE_ne fun z => h (List.mem_cons_of_mem _ z)
theorem wipe_ne {σ : L2.St} {i : Nat} : ∀ {vs : List Nat}, i ∉ vs → (wipe σ vs)[i]? = σ[i]?
  | [], _ => rfl
  | v :: vs, h => by
    unfold wipe
    rw [List.getElem?_set_ne fun e => h (by rw [e]; exact List.mem_cons_self)]
    exact wipe_ne fun z => h (List.mem_cons_of_mem _ z)
theorem ownW {vs : List Nat} {i : Nat} {a : Addr} (h : OwnAt (wipeE ρ vs) (wipe σ vs) i a) : OwnAt ρ σ i a ∧ i ∉ vs := by
  obtain ⟨l, e, ho, es⟩ := h
  obtain ⟨e1, n⟩ := wipe_get e
  exact ⟨⟨l, e1, ho, (wipe_some es).1⟩, n⟩
theorem StOk.wiped (s : StOk K H0 A0 H ρ σ) (vs : List Nat) : StOk K H0 A0 H (wipeE ρ vs) (wipe σ vs) := by
  have av : ∀ a, Av A0 (wipeE ρ vs) (wipe σ vs) [] a → Av A0 ρ σ [] a := by
    rintro a (z | ⟨i, n, z⟩)
    · exact .inl z
    · exact .inr ⟨i, n, (ownW z).1⟩
  refine ⟨s.same, s.a0, by rw [wipe_length, wipeE_length]; exact s.len, fun i d e => ?_, fun i ds e => ?_, fun i ks ds e => ?_, fun i j a h1 h2 => s.ap i j a (ownW h1).1 (ownW h2).1⟩
  · obtain ⟨e1, n⟩ := wipe_get e
    obtain ⟨v, e2, r⟩ := s.sh i d e1
    exact ⟨v, by rw [wipe_ne n]; exact e2, r.anti av⟩
  · obtain ⟨e1, n⟩ := wipe_get e
    obtain ⟨a, us, e2, h0, h1, r⟩ := s.ol i ds e1
    exact ⟨a, us, by rw [wipe_ne n]; exact e2, h0, h1, r.anti av⟩
  · obtain ⟨e1, n⟩ := wipe_get e
    obtain ⟨a, us, e2, h0, h1, h2, r⟩ := s.od i ks ds e1
    exact ⟨a, us, by rw [wipe_ne n]; exact e2, h0, h1, h2, r.anti av⟩
/-- a list at D is being made -/
theorem StOk.withD (s : StOk K H0 A0 H ρ σ) {D : Addr} {acc : List V} (hD : H D = none) (hs : Same H H2) (h2 : H2 D = some (.lst acc)) : StOk K (Bs H2 ρ σ []) (fun a => A0 a ∨ a = D) H2 ρ σ := by
  have nD : ¬ Ow ρ σ [] D := fun ⟨i, _, h⟩ => by
    obtain ⟨⟨o, e⟩, _⟩ := s.ownSome h
    rw [hD] at e
    cases e
  have av : ∀ a, Av (fun a => A0 a ∨ a = D) ρ σ [] a → Av A0 ρ σ [] a ∨ a = D := by
    rintro a ((z | z) | z)
    · exact .inl (.inl z)
    · exact .inr z
    · exact .inl (.inr z)
  have nA : ∀ a, A0 a → ¬ Ow ρ σ [] a := fun a z q => by
    have q1 := s.a0 a z
    rw [s.owNew q] at q1
    exact q1
  refine ⟨Bs_same, fun a z => ?_, s.len, fun i d e => ?_, fun i ds e => ?_, fun i ks ds e => ?_, s.ap⟩
  · rcases z with z | z
    · rw [Bs_ne (nA a z)]
      exact (s.grow hs).avMut (lk := []) (.inl z)
    · subst z
      rw [Bs_ne nD, h2]
      exact True.intro
  · obtain ⟨v, e1, r⟩ := s.sh i d e
    exact ⟨v, e1, ((Rep.fresh hD _ _ r).same hs).anti av⟩
  · obtain ⟨a, vs, e1, h0, h1, r⟩ := s.ol i ds e
    exact ⟨a, vs, e1, Bs_ow ⟨i, (fun z => nomatch z), _, e, rfl, e1⟩, hs _ _ h1, ((Reps.fresh hD _ _ r).same hs).anti av⟩
  · obtain ⟨a, vs, e1, h0, h1, h3, r⟩ := s.od i ks ds e
    exact ⟨a, vs, e1, Bs_ow ⟨i, (fun z => nomatch z), _, e, rfl, e1⟩, hs _ _ h1, h3, ((Reps.fresh hD _ _ r).same hs).anti av⟩
theorem noEx_post {α : Type} {o : Out α} {R : α → Prop} (h : PostX K W H σ (noEx o) R) {σ' : L2.St} : PostX K W0 H2 σ' o R := by
  cases o with
  | ok a => exact h
  | exc x => exact False.elim h
  | bad => exact False.elim h
theorem tld_lc {wi : TI} {g : TG} {tt : TT} {te : TE} {u : Dt → Env → Option Env} {S vs lt le : List Nat} {t : Env → Out Bool} {f : Env → Out Dt} {src : Env → Out (List Dt)} (hi : TID K W wi src lk) (hg : TGD K g u S) (hS : ∀ i ∈ S, i ∈ vs)
    (ht : TTD K W0 tt t lt) (he : TED K W0 te f le) : TLD K W (tLc wi g tt te vs) (lLc u vs t f src lk) (lk ++ (le ++ vs)) := by
  intro H0 A0 ρ σ H Q s h
  refine hi _ _ _ _ _ _ s (h.seq fun ds _ h1 J H1 s1 w => ?_)
  intro D hD
  split at h1
  case isFalse => exact False.elim h1
  rename_i hz
  obtain ⟨sB, hB⟩ := s.rebase s1 lk
  have sW := sB.wiped vs
  -- what is wanted, without the wish
  cases eo : lcD u t f (wipeE (frz lk ρ) vs) ds with
  | exc x =>
    exfalso
    have key : ∀ es, lcD u t f (wipeE (frz lk ρ) vs) es ≠ .exc x := by
      intro es
      induction es with
      | nil => intro z; cases z
      | cons d es ih =>
        intro z
        unfold lcD at z
        cases e1 : u d (wipeE (frz lk ρ) vs) with
        | none => rw [e1] at z; cases z
        | some ρ1 =>
          rw [e1] at z
          simp only [ofO_some, Out.bind_ok] at z
          cases e2 : t ρ1 with
          | ok b =>
            rw [e2] at z
            simp only [noEx_ok, Out.bind_ok] at z
            split at z
            · cases e3 : f ρ1 with
              | ok y =>
                rw [e3] at z
                simp only [noEx_ok, Out.bind_ok] at z
                cases e4 : lcD u t f (wipeE (frz lk ρ) vs) es with
                | ok r => rw [e4] at z; cases z
                | exc x' => rw [e4] at z; cases z; exact ih e4
                | bad => rw [e4] at z; cases z
              | exc x' => rw [e3] at z; cases z
              | bad => rw [e3] at z; cases z
            · exact ih z
          | exc x' => rw [e2] at z; cases z
          | bad => rw [e2] at z; cases z
    exact key ds eo
  | bad => rw [eo] at h1; exact False.elim h1
  | ok res =>
    rw [eo] at h1
    have avs : ∀ a, Av A0 ρ σ (lk ++ (le ++ vs)) a → Av A0 (frz lk ρ) σ (le ++ vs) a := by
      rintro a (z | ⟨i, n, l, e, ho, es⟩)
      · exact .inl z
      · refine .inr ⟨i, fun q => n (List.mem_append_right _ q), l, ?_, ho, es⟩
        exact frz_ne (fun q => n (List.mem_append_left _ q)) e
    -- the invariant: the items so far, and what the rest will give
    refine ⟨fun i m H' => m + i = ds.length ∧ Same H1 H' ∧ ∃ (done todo : List Dt) (acc : List V), H' D = some (.lst acc) ∧ acc.length ≤ i ∧ lcD u t f (wipeE (frz lk ρ) vs) (ds.drop i) = .ok todo ∧ done ++ todo = res ∧
      Reps K H' (fun a => Av A0 ρ σ (lk ++ (le ++ vs)) a ∨ a = D) done acc, ⟨ds.length, by omega, Same.new hD, [], res, [], upd_same, Nat.le_refl 0, eo, rfl, Reps.nil⟩, ?_⟩
    rintro i m H2 ⟨hm, s2, done, todo, acc, hacc, hlen, e, hres, racc⟩
    have sBW : Same (Bs H1 ρ σ lk) H2 := Bs_same.trans s2
    by_cases hlt : i < ds.length
    · have hd : ds.drop i = ds[i] :: ds.drop (i + 1) := List.drop_eq_getElem_cons hlt
      rw [hd] at e
      unfold lcD at e
      refine .inr ⟨w.go i H2 sBW hlt, fun H' => Same H1 H' ∧ ∃ (done todo : List Dt) (acc : List V), H' D = some (.lst acc) ∧ acc.length ≤ i + 1 ∧ lcD u t f (wipeE (frz lk ρ) vs) (ds.drop (i + 1)) = .ok todo ∧ done ++ todo = res ∧
        Reps K H' (fun a => Av A0 ρ σ (lk ++ (le ++ vs)) a ∨ a = D) done acc, fun H' q => ⟨m - 1, by omega, by omega, q⟩, fun x H3 y => ?_⟩
      obtain ⟨s3, r3⟩ := w.yld i H2 x H3 ds[i] sBW y (List.getElem?_eq_getElem hlt)
      have hacc3 := s3 _ _ hacc
      have sD := sW.withD hD (s2.trans s3) hacc3
      cases eu : u ds[i] (wipeE (frz lk ρ) vs) with
      | none => rw [eu] at e; cases e
      | some ρ1 =>
        rw [eu] at e
        simp only [ofO_some, Out.bind_ok] at e
        refine hg _ _ _ _ _ _ _ _ _ sD (r3 _ fun a z => ?_) eu fun σ4 s4 m4 o4 => ⟨?_, ?_⟩
        · rcases z with (z | z) | ⟨j, n, z⟩
          · refine ⟨.inl z, ?_⟩
            have q := sD.avMut (lk := []) (a := a) (.inl (.inl z))
            intro z2
            have z3 : H3 a = none := by
              cases q3 : H3 a with
              | none => rfl
              | some o =>
                exfalso
                have q4 := (s.grow s1).avMut (lk := []) (a := a) (.inl z)
                cases q5 : H1 a with
                | none => rw [q5] at q4; exact q4
                | some o' =>
                  have q6 := s2 a o' q5
                  rw [z2] at q6
                  cases q6
            rw [z3] at q
            exact q
          · subst z
            refine ⟨.inr ?_, by rw [hacc]; intro z; cases z⟩
            have : Bs H1 ρ σ lk a = none := by
              unfold Bs
              split
              · rfl
              · exact hD
            exact this
          · obtain ⟨z1, _⟩ := ownW z
            refine ⟨.inr ?_, ?_⟩
            · exact (sB.ownSome z1).2
            · obtain ⟨⟨o, q⟩, _⟩ := sB.ownSome z1
              rw [s2 _ _ q]
              intro z
              cases z
        · -- the slots of the block alone were stored
          have wl : ∀ vs' : List Nat, (∀ i ∈ S, i ∈ vs') → wipe σ4 vs' = wipe (wipe σ vs) vs' := fun vs' hv => by
            apply List.ext_getElem?
            intro j
            by_cases hj : j ∈ vs'
            · have n1 : ∀ τ : L2.St, j < τ.length → (wipe τ vs')[j]? = some none := fun τ hjl => wipe_mem hj hjl
              by_cases hl : j < σ4.length
              · rw [n1 _ hl, n1 _ (by rw [← o4.1]; exact hl)]
              · rw [List.getElem?_eq_none (by rw [wipe_length]; omega), List.getElem?_eq_none (by rw [wipe_length, ← o4.1]; omega)]
            · rw [wipe_ne hj, wipe_ne hj]
              exact (o4.2 j fun z => hj (hv j z)).1
          rw [wl vs hS, wipe_idem]
        · refine ht _ _ _ _ _ _ s4 ?_
          cases et : t ρ1 with
          | exc x' => rw [et] at e; cases e
          | bad => rw [et] at e; cases e
          | ok b =>
            rw [et] at e
            simp only [noEx_ok, Out.bind_ok] at e
            intro H4 s5
            cases b with
            | false =>
              simp only [Bool.false_eq_true, if_false] at e ⊢
              exact ⟨(s2.trans s3).trans s5, done, todo, acc, s5 _ _ hacc3, by omega, e, hres, (racc.same s3).same s5⟩
            | true =>
              simp only [if_true] at e ⊢
              refine he _ _ _ _ _ _ (s4.grow s5) ?_
              cases ef : f ρ1 with
              | exc x' => rw [ef] at e; cases e
              | bad => rw [ef] at e; cases e
              | ok y =>
                rw [ef] at e
                simp only [noEx_ok, Out.bind_ok] at e
                cases er : lcD u t f (wipeE (frz lk ρ) vs) (ds.drop (i + 1)) with
                | exc x' => rw [er] at e; cases e
                | bad => rw [er] at e; cases e
                | ok r =>
                  rw [er] at e
                  have ey : y :: r = todo := by
                    have e' : (Out.ok (y :: r) : Out (List Dt)) = .ok todo := e
                    injection e'
                  intro v5 H5 s6 r5
                  have hD5 := s6 _ _ (s5 _ _ hacc3)
                  refine ⟨acc, hD5, by rw [sizeLine_eq]; omega, fun a o q => ?_, done ++ [y], r, acc ++ [v5], upd_same, by rw [List.length_append, List.length_singleton]; omega, rfl, ?_, ?_⟩
                  · rw [upd_ne (ne_of_none q hD)]
                    exact s6 _ _ (s5 _ _ (s3 _ _ (s2 _ _ q)))
                  · rw [List.append_assoc]
                    show done ++ (y :: r) = res
                    rw [ey]
                    exact hres
                  · have keep : ∀ a o, ¬ (Av A0 ρ σ (lk ++ (le ++ vs)) a ∨ a = D) → H5 a = some o → upd H5 D (.lst (acc ++ [v5])) a = some o := fun a o n q => by
                      rw [upd_ne fun z => n (.inr z)]
                      exact q
                    refine Reps.mono keep (fun a z => z) _ _ (Reps.append (((racc.same s3).same s5).same s6) (Reps.cons (r5.anti fun a z => ?_) Reps.nil))
                    rcases z with z | z
                    · rcases avs a z with z | ⟨j, n, l, e1, ho, es⟩
                      · exact .inl (.inl z)
                      · have nv : j ∉ vs := fun q => n (List.mem_append_right _ q)
                        have nS : j ∉ S := fun q => nv (hS j q)
                        refine .inr ⟨j, fun q => n (List.mem_append_left _ q), l, ?_, ho, ?_⟩
                        · rw [(o4.2 j nS).2, wipeE_ne nv]
                          exact e1
                        · rw [(o4.2 j nS).1, wipe_ne nv]
                          exact es
                    · exact .inl (.inr z)
    · have e1 : i = ds.length := by omega
      subst e1
      rw [List.drop_length] at e
      have et : todo = [] := by
        have e' : (Out.ok [] : Out (List Dt)) = .ok todo := e
        injection e' with e'
        exact e'.symm
      subst et
      rw [List.append_nil] at hres
      subst hres
      refine .inl ⟨w.stop H2 sBW, ?_⟩
      exact h1 D acc H2 (s1.trans s2) (s1.free hD) hacc racc
where
  frz_ne {lk : List Nat} {ρ : Env} {i : Nat} {l : Lo} (hn : i ∉ lk) (e : ρ[i]? = some (some l)) : (frz lk ρ)[i]? = some (some l) := by
    induction lk generalizing ρ with
    | nil => exact e
    | cons j lk ih =>
      rw [frz_cons]
      refine ih (fun q => hn (List.mem_cons_of_mem _ q)) ?_
      unfold FD.frz1
      split
      · rw [List.getElem?_set_ne fun z => hn (by rw [z]; exact List.mem_cons_self)]
        exact e
      · exact e
  wipe_mem {τ : L2.St} {j : Nat} {vs : List Nat} (h : j ∈ vs) (hl : j < τ.length) : (wipe τ vs)[j]? = some none := by
    induction vs with
    | nil => cases h
    | cons v vs ih =>
      unfold wipe
      by_cases e : v = j
      · subst e
        rw [List.getElem?_set_self (by rw [wipe_length]; exact hl)]
      · rw [List.getElem?_set_ne e]
        rcases List.mem_cons.mp h with z | z
        · exact absurd z.symm e
        · exact ih z
  wipe_idem {τ : L2.St} {vs : List Nat} : wipe (wipe τ vs) vs = wipe τ vs := by
    apply List.ext_getElem?
    intro j
    by_cases hj : j ∈ vs
    · by_cases hl : j < τ.length
      · rw [wipe_mem hj (by rw [wipe_length]; exact hl), wipe_mem hj hl]
      · rw [List.getElem?_eq_none (by rw [wipe_length, wipe_length]; omega), List.getElem?_eq_none (by rw [wipe_length]; omega)]
    · rw [wipe_ne hj, wipe_ne hj]
end
end FD

/-! own exceptions over ValueError whose __init__ stores and says super().__init__(text) -/
namespace PySem.FX
open PySem PySem.W PySem.Calls PyProof.Rows PySem.Spec
abbrev supSt (p0 p1 p2 p3 p4 : Pos) (msg : Expr) : Stmt := .Expr (.Call (.Attribute (.Call (.Name "super" p0) [] [] p1) "__init__" p2) [msg] [] p3) p4
abbrev stoSt (f x : Str) (q1 q2 q3 q4 : Pos) : Stmt := .Assign [.Attribute (.Name "self" q1) f q2] (.Name x q3) q4
abbrev exO (C t : Addr) (dv : Option Addr) : Obj := { cls := .ref C, dict := dv, data := .fields #[.ref t, .none, .none, .none, .bool false, .none] }
structure XTxt (prog : Program) (K : Frag) (mg : Str → Option Value) (C fI cc cda : Addr) (qual : Str) (params : Arguments) (body : List Stmt) (scope : Scope) : Prop where
  cls : ∃ nm q N bs bm sn sub ab col dd k0 k1 k2 k3 k5, K.lookup C = some (excClassObj nm q C N bs bm true sn sub ab col dd k0 k1 k2 k3 k5 "ValueError.__new__") ∧ HandSPX.refsVE bm = true
  sa : findIn K (.ref C) "__setattr__" = some (some (.builtin "object.__setattr__"))
  iC : findIn K (.ref C) "__init__" = some (some (.ref fI))
  tI : typeIn K (.ref fI) = some (.type "function")
  kC : keepIn K (.ref C) = true
  exC : subIn K (.ref C) (.type "BaseException") = some true
  exVE : subIn K (.ref C) (.type "ValueError") = some true
  tyC : typeIn K (.ref C) = some (.type "type")
  sub : mroIn K C (.ref C) = some true
  supI : ks_superIn K C C "__init__" = some (some (.builtin "ValueError.__init__"))
  any : nsIn K cStatics "thirdparty.any" = some none
  mgS : mg "super" = none
  cell : ∃ cl cld csl, K.lookup cc = some ⟨cl, cld, .cell (some (.ref C)), csl⟩
  code : ∃ ccl cdd vs ccs f tf, K.lookup cda = some ⟨ccl, cdd, .fields vs, ccs⟩ ∧ vs[2]? = some (.str f tf) ∧ ((prog.main.file : Str) == f) = true
  top : (prog.main.scope.names.lookup ("super" : Str)).isSome = false
  fn : ∃ (oc : Value) (od : Option Addr) (kV doc pm : Value) (an : Option Addr) (ct : Value) (osl : Array (Option Value)), K.lookup fI = some ⟨oc, od, .func (ksFn "__init__" qual params body scope .none kV doc pm an (.ref cda) ct cc), osl⟩ ∧ codeIn K (.ref cda) qual = true
section
variable {prog : Program} {w : World} {A : Around} {E : Value → Shared → Prop} {s : Shared} {K : Frag} {mg : Str → Option Value} {C fI cc cda : Addr} {qual : Str} {params : Arguments} {body : List Stmt} {scope : Scope}
/-- super().__init__(msg) -/
theorem super_run (T : XTxt prog K mg C fI cc cda qual params body scope) {base : Heap} (hb : ∀ b o, base.get? b = some o → s.heap.get? b = some o) (M : L2.Mod K mg base) {L x t0 : Addr} {m : Str → Option Value} {dv : Option Addr} {p0 p1 p2 p3 p4 : Pos} {msg : Expr} {ar : Arg} {Q : Flow → Shared → Prop}
    (hx : s.heap.get? x = some (exO C t0 dv)) (hdv : ∀ d, dv = some d → ∃ od, s.heap.get? d = some od) (hn : s.heap.Ns L m) (hself : m "self" = some (.ref x)) (har : (params.posonlyargs ++ params.args).head? = some ar) (hself' : ar.arg = "self")
    (hks : scope.names.lookup ("super" : Str) = some .globalImplicit) (hkc : scope.names.lookup ("__class__" : Str) = some .free) (hka : scope.names.lookup ("self" : Str) = some .local) (hk : scope.kind = .function)
    (hmsg : ∀ s' : Shared, s'.heap.Ns L m → wpAny (model prog w) A (eval msg (ksEnv qual scope L fI (.ref cda) cc)) (fun v s2 => ∃ z t tk, v = .str z t ∧ s2 = { s' with toks := tk }) E s')
    (hst : starEach [msg] (ksEnv qual scope L fI (.ref cda) cc) = [(false, eval msg (ksEnv qual scope L fI (.ref cda) cc))])
    (hsw : swapsWith (.Call (.Attribute (.Call (.Name "super" p0) [] [] p1) "__init__" p2) [msg] [] p3) none p4.line (ksEnv qual scope L fI (.ref cda) cc) = pure false)
    (hev : ∃ pl : Sem Bool, eval (.Call (.Attribute (.Call (.Name "super" p0) [] [] p1) "__init__" p2) [msg] [] p3) (ksEnv qual scope L fI (.ref cda) cc) = (do
      let ov ← attributeBase (.Call (.Name "super" p0) [] [] p1) "__init__" (ksEnv qual scope L fI (.ref cda) cc) (eval (.Call (.Name "super" p0) [] [] p1) (ksEnv qual scope L fI (.ref cda) cc))
      standAt p2.atName
      let (f, first) ← holding [ov] (getMethod ov "__init__" pl)
      callWith p3 f first (backTo p3 (starEach [msg] (ksEnv qual scope L fI (.ref cda) cc))) []))
    (hq : ∀ h' tk t1, (∀ b o, b ≠ x → s.heap.get? b = some o → h'.get? b = some o) → h'.get? x = some (exO C t1 dv) → Q .next { s with heap := h', toks := tk }) :
    wpAt (model prog w) A (.func body (ksEnv qual scope L fI (.ref cda) cc)) (exec (supSt p0 p1 p2 p3 p4 msg) (ksEnv qual scope L fI (.ref cda) cc)) Q E s := by
  obtain ⟨nm, q, N, bs, bm, sn, sub, ab, col, dd, k0, k1, k2, k3, k5, hC, hbm⟩ := T.cls
  obtain ⟨oc, od, kV, doc, pm, an, ct, osl, lkF, hcd⟩ := T.fn
  obtain ⟨cl, cld, csl, hcell⟩ := T.cell
  obtain ⟨ccl, cdd, vs, ccs, f, tf, hcode, hvs, hfile⟩ := T.code
  have X : K.In s.heap := M.kin.keeps hb
  obtain ⟨mb, hmb, hbt⟩ := M.blt
  obtain ⟨pl, hev⟩ := hev
  have hcx : clsIn K C = some { name := nm, bases := bs, mro := .ref C :: bm, ns := N, qualname := q, hasDict := true, slotNames := sn, subclasses := sub, abstract := ab, collection := col, hasDel := false } := by unfold clsIn; rw [hC] <;> rfl
  obtain ⟨odx, I⟩ : ∃ odx, W.InstAt s.heap x (exO C t0 dv) C odx := by
    cases dv with
    | none => exact ⟨none, hx, rfl, rfl, trivial⟩
    | some d =>
      obtain ⟨od, hod⟩ := hdv d rfl
      exact ⟨some od, hx, rfl, rfl, hod⟩
  have hI : W.Looks (model prog w) s.heap (isInstance (.ref x) (.type "ValueError")) true := I.type.andThen (looks_subIn X T.exVE)
  refine ks_wpAt_Expr_any (ks_wpAt_MethodCall (pl := pl) ?_ hev) (by simp [interactive, hk]) hsw
  refine ks_wpAt_super_base (env := ksEnv qual scope L fI (.ref cda) cc) hks hkc rfl rfl (X _ _ lkF) rfl har rfl (X _ _ hcode) rfl hvs hfile T.top ?_
  refine ks_loadName_global hk hks (Calls.loadGlobal_builtin (env := ksEnv qual scope L fI (.ref cda) cc) (M.glob.keeps hb) T.mgS (hmb.keeps hb) ((hbt _ (by decide +kernel)).trans (by first | rfl | kernel_rfl)) ⟨rfl, ?_⟩)
  refine wpAny_loadName_free hk hkc rfl ⟨_, X _ _ hcell, rfl⟩ ?_
  rw [hself']
  refine wpAny_loadName_local hk hka hn hself ?_
  refine ks_wpAny_isType_cls (X _ _ hC) rfl ⟨rfl, ?_⟩
  obtain ⟨hh, g, d, t, os⟩ := s
  refine ks_wpAny_call_super (X _ _ hC) rfl hx rfl (fun c e => by cases e) (looks_mroIn X T.sub) (fun h1 e1 kk1 => ?_)
  -- the method
  have X1 : K.In h1 := X.keeps kk1
  have hI1 : W.Looks (model prog w) h1 (isInstance (.ref x) (.type "ValueError")) true := hI.keeps kk1
  have hsup := T.supI
  unfold ks_superIn at hsup
  rw [hcx] at hsup
  refine kxs_getMethod kxs_ValueError e1 (looks_opaque X1 T.any) (l₀ := .ref C :: bm) ?_ rfl X1 hsup hI1 (fun z => ?_) rfl ?_
  · exact fun A Q E s k q => wpAny_bind ((looks_clsIn X1 hcx) A _ E s k (wpAny_pure q))
  · subst z
    have := X _ _ hC
    rw [hx] at this
    cases this
  -- the message, the call
  have hne : ∀ (b : Addr) (o : Obj), hh.get? b = some o → ((h1.push (kxs_mw "ValueError.__init__" x))).get? b = some o := fun b o e => Heap.get?_push_of_some _ (kk1 b o e)
  rw [hst]
  have hn2 : (h1.push (kxs_mw "ValueError.__init__" x)).Ns L m := hn.keeps hne
  have hxu : h1.objs.size ≠ x := Nat.ne_of_gt (Heap.lt_size (kk1 _ _ hx))
  refine kxs_callWith (i := "ValueError.__init__") (x := x) rfl (Calls.evalArgs_plain (Calls.spliced_cons (wpAny_mono (hmsg _ hn2) (fun v s2 hv => ?_) fun _ _ z => z)))
  obtain ⟨z, tz, tk, rfl, rfl⟩ := hv
  refine Calls.spliced_nil ⟨Heap.get?_push_at rfl rfl, ?_⟩
  have hu : (h1.push (kxs_mw "ValueError.__init__" x)).get? h1.objs.size = some (kxs_mw "ValueError.__init__" x) := Heap.get?_push_at rfl rfl
  have hx3 : (h1.push (kxs_mw "ValueError.__init__" x)).get? x = some (exO C t0 dv) := hne _ _ hx
  have hC3 : (h1.push (kxs_mw "ValueError.__init__" x)).get? C = some (excClassObj nm q C N bs bm true sn sub ab col dd k0 k1 k2 k3 k5 "ValueError.__new__") := hne _ _ (X _ _ hC)
  show wpAny _ _ (call (.ref h1.objs.size) [Value.str z tz]) _ _ _
  refine wpAny_call (codeAny_of_tree ?_)
  show wpAny _ A.in1 (callAny (.ref h1.objs.size) ⟨[Value.str z tz], []⟩) _ _ _
  simp only [callAny]
  refine wpAny_bind (wpAny_load hu ?_)
  simp only [kxs_mw, show (Value.type "method-wrapper" == Value.type "method" || Value.type "method-wrapper" == Value.type "builtin_function_or_method" || Value.type "method-wrapper" == Value.type "method-wrapper") = true by decide, if_true]
  refine KFB.if_so (by decide) ?_
  have FB := F.excBase_ValueError
  refine wpAny_bind (check_bound_init FB.toExcCallFacts hC3 hx3 rfl ?_)
  refine wpAny_bind (wpAny_pure (wpAny_pure ?_))
  refine ⟨plainId_quiet FB.init.plain _, codeAny_builtin FB.initEntry ?_⟩
  refine exc_init_tree (cls := .ref C) (t0 := t0) (dv := dv) (c2 := .none) (c3 := .none) (b4 := .bool false) hx3 (by show 1 ≤ sizeLine; rw [sizeLine_eq]; decide) fun h' k' e' _ => ?_
  exact hq h' _ _ (fun b o hb e => k' b o hb (hne b o e)) e'
/-- what __init__ leaves of a fresh exception at x -/
structure XEnd (h h' : Heap) (x C t1 : Addr) (dv : Option Addr) (mA : Str → Option Value) : Prop where
  keep : ∀ b o, b ≠ x → h.get? b = some o → h'.get? b = some o
  obj : h'.get? x = some (exO C t1 dv)
  dct : ∀ dx, dv = some dx → h.objs.size ≤ dx ∧ dx ≠ x ∧ h'.Ns1 dx mA
def MsgRun (prog : Program) (w : World) (env : PySem.Env) (m : Str → Option Value) (msg : PySem.Expr) : Prop := ∀ (A : Around) (E : Value → Shared → Prop) (s' : Shared), s'.heap.Ns env.locals m →
  wpAny (model prog w) A (eval msg env) (fun v s2 => ∃ z t tk, v = .str z t ∧ s2 = { s' with toks := tk }) E s'
/-- what the text of __init__ must be -/
structure XForm (env : PySem.Env) (p0 p1 p2 p3 p4 : Pos) (msg : PySem.Expr) : Prop where
  st : starEach [msg] env = [(false, eval msg env)]
  sw : swapsWith (.Call (.Attribute (.Call (.Name "super" p0) [] [] p1) "__init__" p2) [msg] [] p3) none p4.line env = pure false
  ev : ∃ pl : Sem Bool, eval (.Call (.Attribute (.Call (.Name "super" p0) [] [] p1) "__init__" p2) [msg] [] p3) env = (do
      let ov ← attributeBase (.Call (.Name "super" p0) [] [] p1) "__init__" env (eval (.Call (.Name "super" p0) [] [] p1) env)
      standAt p2.atName
      let (f, first) ← holding [ov] (getMethod ov "__init__" pl)
      callWith p3 f first (backTo p3 (starEach [msg] env)) [])
variable {R : Result → Shared → Prop} {base : Heap}
theorem xinit0 {p0 p1 p2 p3 p4 : Pos} {msg : PySem.Expr} {ar : Arg} {x t0 : Addr} (T : XTxt prog K mg C fI cc cda qual params [supSt p0 p1 p2 p3 p4 msg] scope) (hb : ∀ b o, base.get? b = some o → s.heap.get? b = some o) (M : L2.Mod K mg base)
    (hx : s.heap.get? x = some (exO C t0 none)) (hlim : s.heap.NoLimit) (hroom : A.depth < recursionLimit) (har : (params.posonlyargs ++ params.args).head? = some ar) (hself' : ar.arg = "self")
    (hbind : ∀ kV doc pm an ct, BindsTo s (ksFn "__init__" qual params [supSt p0 p1 p2 p3 p4 msg] scope .none kV doc pm an (.ref cda) ct cc) ⟨[.ref x], []⟩ [("self", .ref x)])
    (hcell : ∀ y ∈ scope.names, y.2 ≠ .cell) (hks : scope.names.lookup ("super" : Str) = some .globalImplicit) (hkc : scope.names.lookup ("__class__" : Str) = some .free) (hka : scope.names.lookup ("self" : Str) = some .local) (hk : scope.kind = .function)
    (hco : scope.isCoroutine = false) (hgen : scope.isGenerator = false)
    (hf : ∀ L, XForm (ksEnv qual scope L fI (.ref cda) cc) p0 p1 p2 p3 p4 msg) (hmsg : ∀ L, MsgRun prog w (ksEnv qual scope L fI (.ref cda) cc) (fun y => [(("self" : Str), Value.ref x)].reverse.lookup y) msg)
    (hq : ∀ h' tk t1, XEnd s.heap h' x C t1 none (fun _ => none) → R (.ok (.ret .none)) { s with heap := h', toks := tk }) :
    codeAny (model prog w) A (.call (.ref fI) ⟨[.ref x], []⟩) R s := by
  obtain ⟨oc, od, kV, doc, pm, an, ct, osl, lkF, hcd⟩ := T.fn
  have X : K.In s.heap := M.kin.keeps hb
  refine ks_codeAny_call_defAt (fd := ksFn "__init__" qual params [supSt p0 p1 p2 p3 p4 msg] scope .none kV doc pm an (.ref cda) ct cc) (body := [supSt p0 p1 p2 p3 p4 msg]) (binds := [("self", .ref x)]) hroom (X _ _ lkF) rfl hlim (codeRec_of X hcd) rfl (hbind _ _ _ _ _) hcell
    (fun y hy => ?_) (fun h₁ hns hk₁ => ?_) hco hgen hk
  · have e : y = (("self" : Str), Value.ref x) := List.mem_singleton.mp hy
    rw [e]
    exact hka
  · show wpAt _ _ _ (execs [supSt p0 p1 p2 p3 p4 msg] (ksEnv qual scope s.heap.objs.size fI (.ref cda) cc)) _ _ _
    have f := hf s.heap.objs.size
    refine ks_wpAt_execs_cons (super_run (s := { s with heap := h₁, toks := s.toks + 1 }) T (fun b o e => hk₁ b o (hb b o e)) M (hk₁ _ _ hx) (fun d e => by cases e) hns rfl har hself' hks hkc hka hk (fun s' hs' => hmsg s.heap.objs.size _ _ s' hs') f.st f.sw f.ev fun h' tk t1 k1 e1 => ?_)
    refine wpAt_of_wpAny (wpAny_execs_nil ?_)
    exact hq h' tk t1 ⟨fun b o hbx e => k1 b o hbx (hk₁ b o e), e1, fun dx e => by cases e⟩
end
end PySem.FX

namespace PySem.FX
open PySem PySem.W PySem.Calls PyProof.Rows PySem.Spec
section
variable {prog : Program} {w : World} {A : Around} {E : Value → Shared → Prop} {s : Shared} {K : Frag} {mg : Str → Option Value} {C fI cc cda : Addr} {qual : Str} {params : Arguments} {body : List Stmt} {scope : Scope}
variable {R : Result → Shared → Prop} {base : Heap}
/-- .. with one stored field -/
theorem xinit1 {p0 p1 p2 p3 p4 q1 q2 q3 q4 : Pos} {msg : PySem.Expr} {ar : Arg} {x t0 : Addr} {fl ag : Str} {v : Value} (T : XTxt prog K mg C fI cc cda qual params [stoSt fl ag q1 q2 q3 q4, supSt p0 p1 p2 p3 p4 msg] scope)
    (noN : findIn K (.ref C) fl = some none) (hb : ∀ b o, base.get? b = some o → s.heap.get? b = some o) (hnb : base.get? x = none) (M : L2.Mod K mg base)
    (hx : s.heap.get? x = some (exO C t0 none)) (hlim : s.heap.NoLimit) (hroom : A.depth < recursionLimit) (har : (params.posonlyargs ++ params.args).head? = some ar) (hself' : ar.arg = "self")
    (hbind : ∀ kV doc pm an ct, BindsTo s (ksFn "__init__" qual params [stoSt fl ag q1 q2 q3 q4, supSt p0 p1 p2 p3 p4 msg] scope .none kV doc pm an (.ref cda) ct cc) ⟨[.ref x, v], []⟩ [("self", .ref x), (ag, v)])
    (hcell : ∀ y ∈ scope.names, y.2 ≠ .cell) (hks : scope.names.lookup ("super" : Str) = some .globalImplicit) (hkc : scope.names.lookup ("__class__" : Str) = some .free) (hka : scope.names.lookup ("self" : Str) = some .local) (hkg : scope.names.lookup ag = some .local) (hk : scope.kind = .function)
    (hdg : (ag == ("__debug__" : Str)) = false) (hsg : (ag == ("self" : Str)) = false)
    (hco : scope.isCoroutine = false) (hgen : scope.isGenerator = false)
    (hf : ∀ L, XForm (ksEnv qual scope L fI (.ref cda) cc) p0 p1 p2 p3 p4 msg) (hmsg : ∀ L, MsgRun prog w (ksEnv qual scope L fI (.ref cda) cc) (fun y => [(("self" : Str), Value.ref x), (ag, v)].reverse.lookup y) msg)
    (hq : ∀ h' tk t1 dx, XEnd s.heap h' x C t1 (some dx) (fun y => if y = fl then some v else none) → R (.ok (.ret .none)) { s with heap := h', toks := tk }) :
    codeAny (model prog w) A (.call (.ref fI) ⟨[.ref x, v], []⟩) R s := by
  obtain ⟨oc, od, kV, doc, pm, an, ct, osl, lkF, hcd⟩ := T.fn
  obtain ⟨nm, q, N, bs, bm, sn, sub, ab, col, dd, k0, k1, k2, k3, k5, hC, hbm⟩ := T.cls
  have hcl : clsIn K C = some { name := nm, bases := bs, mro := .ref C :: bm, ns := N, qualname := q, hasDict := true, slotNames := sn, subclasses := sub, abstract := ab, collection := col, hasDel := false } := by unfold clsIn; rw [hC] <;> rfl
  have X : K.In s.heap := M.kin.keeps hb
  have m1 : [(("self" : Str), Value.ref x), (ag, v)].reverse.lookup ("self" : Str) = some (.ref x) := by
    show List.lookup ("self" : Str) [(ag, v), (("self" : Str), Value.ref x)] = _
    have e : (("self" : Str) == ag) = false := by
      rw [Bool.eq_false_iff] at hsg ⊢
      intro z
      exact hsg (by rw [eq_of_beq z]; exact beq_self_eq_true _)
    rw [List.lookup, e]
    rfl
  have m2 : [(("self" : Str), Value.ref x), (ag, v)].reverse.lookup ag = some v := by
    show List.lookup ag [(ag, v), (("self" : Str), Value.ref x)] = _
    rw [List.lookup, beq_self_eq_true]
  refine ks_codeAny_call_defAt (fd := ksFn "__init__" qual params [stoSt fl ag q1 q2 q3 q4, supSt p0 p1 p2 p3 p4 msg] scope .none kV doc pm an (.ref cda) ct cc) (body := [stoSt fl ag q1 q2 q3 q4, supSt p0 p1 p2 p3 p4 msg]) (binds := [("self", .ref x), (ag, v)]) hroom (X _ _ lkF) rfl hlim (codeRec_of X hcd) rfl (hbind _ _ _ _ _) hcell
    (fun y hy => ?_) (fun h₁ hns hk₁ => ?_) hco hgen hk
  · rcases List.mem_cons.mp hy with e | e
    · rw [e]
      exact hka
    · rw [List.mem_singleton.mp e]
      exact hkg
  · show wpAt _ _ _ (execs [stoSt fl ag q1 q2 q3 q4, supSt p0 p1 p2 p3 p4 msg] (ksEnv qual scope s.heap.objs.size fI (.ref cda) cc)) _ _ _
    have f := hf s.heap.objs.size
    have X₁ : K.In h₁ := X.keeps hk₁
    have hx₁ := hk₁ _ _ hx
    refine ks_wpAt_execs_cons (wpAt_of_wpAny (plainObj_wpAny_Assign_Attribute ?_))
    refine wpAny_Name (wpAny_loadName_local hk hkg hns m2 (wpAny_Name (wpAny_loadName_local hk hka hns m1 ?_) (by decide))) hdg
    refine set_plain X₁ (ox := exO C t0 none) (od := none) ⟨hx₁, rfl, rfl, trivial⟩ T.sa ?_
    refine HandSPX.exc_osa X₁ hx₁ hcl (show HandSPX.refsVE (.ref C :: bm) = true from hbm) rfl noN (fun h₃ tk₃ dx k₃ dn dne hx₃ hn₃ => ?_)
    have hLx : s.heap.objs.size ≠ x := Nat.ne_of_gt (Heap.lt_size hx)
    have hns₃ : h₃.Ns s.heap.objs.size (fun y => [(("self" : Str), Value.ref x), (ag, v)].reverse.lookup y) := by
      refine Heap.Ns.at hns fun o e => k₃ _ _ hLx e
    refine ks_wpAt_execs_cons (super_run (dv := some dx) (s := { s with heap := h₃, toks := tk₃ }) T (fun b o e => ?_) M hx₃ (fun d e => ?_) hns₃ m1 har hself' hks hkc hka hk (fun s' hs' => hmsg s.heap.objs.size _ _ s' hs') f.st f.sw f.ev fun h' tk t1 k1 e1 => ?_)
    · refine k₃ _ _ (fun z => ?_) (hk₁ b o (hb b o e))
      subst z
      rw [hnb] at e
      cases e
    · injection e with e
      subst e
      obtain ⟨_, _, _, ho, _⟩ := hn₃
      exact ⟨_, ho⟩
    · refine wpAt_of_wpAny (wpAny_execs_nil ?_)
      refine hq h' tk t1 dx ⟨fun b o hbx e => k1 b o hbx (k₃ b o hbx (hk₁ b o e)), e1, fun dx' e => ?_⟩
      injection e with e
      subst e
      exact ⟨Nat.le_trans (Nat.le_of_lt hns.lt) dn, dne, hn₃.at fun o e => k1 _ _ dne e⟩
/-- a made exception: its fields fv (in its own dict, if there are any) -/
structure XNew (h h' : Heap) (e C : Addr) (dv : Option Addr) (fv : List (Str × Value)) : Prop where
  keep : ∀ b o, h.get? b = some o → h'.get? b = some o
  new : h.objs.size ≤ e
  obj : ∃ oe vs, h'.get? e = some oe ∧ oe.cls = .ref C ∧ oe.dict = dv ∧ oe.data = .fields vs ∧ vs[1]? = some .none
  none' : dv = none → fv = []
  dct : ∀ d, dv = some d → h.objs.size ≤ d ∧ d ≠ e ∧ h'.Ns1 d (fun y => fv.lookup y)
/-- C(us) is made: what its call leaves -/
def XMk (prog : Program) (w : World) (K : Frag) (mg : Str → Option Value) (base : Heap) (C : Addr) (fs : List Str) (ok : List L2.V → Prop) : Prop :=
  ∀ (A : Around) (R : Result → Shared → Prop) (s : Shared) (vs : List L2.V) (us : List Value), L2.Vals vs us → vs.length = fs.length → ok vs → (∀ b o, base.get? b = some o → s.heap.get? b = some o) → L2.Mod K mg base → s.heap.NoLimit → A.depth + 1 < recursionLimit →
    (∀ h' tk e dv, XNew s.heap h' e C dv (fs.zip us) → (dv = none ↔ fs = []) → R (.ok (.ret (.ref e))) { s with heap := h', toks := tk }) → codeAny (model prog w) A (.call (.ref C) ⟨us, []⟩) R s
theorem kin_fresh {h : Heap} (X : K.In h) {x : Addr} (hx : h.objs.size ≤ x) : K.lookup x = none := by
  cases e : K.lookup x with
  | none => rfl
  | some o => exact absurd (Nat.lt_of_lt_of_le (Heap.lt_size (X _ _ e)) hx) (Nat.lt_irrefl _)
theorem mk0 {p0 p1 p2 p3 p4 : Pos} {msg : PySem.Expr} {ar : Arg} (T : XTxt prog K mg C fI cc cda qual params [supSt p0 p1 p2 p3 p4 msg] scope) (har : (params.posonlyargs ++ params.args).head? = some ar) (hself' : ar.arg = "self")
    (hbind : ∀ s x kV doc pm an ct, BindsTo s (ksFn "__init__" qual params [supSt p0 p1 p2 p3 p4 msg] scope .none kV doc pm an (.ref cda) ct cc) ⟨[.ref x], []⟩ [("self", .ref x)])
    (hcell : ∀ y ∈ scope.names, y.2 ≠ .cell) (hks : scope.names.lookup ("super" : Str) = some .globalImplicit) (hkc : scope.names.lookup ("__class__" : Str) = some .free) (hka : scope.names.lookup ("self" : Str) = some .local) (hk : scope.kind = .function)
    (hco : scope.isCoroutine = false) (hgen : scope.isGenerator = false)
    (hf : ∀ L, XForm (ksEnv qual scope L fI (.ref cda) cc) p0 p1 p2 p3 p4 msg) (hmsg : ∀ L x, MsgRun prog w (ksEnv qual scope L fI (.ref cda) cc) (fun y => [(("self" : Str), Value.ref x)].reverse.lookup y) msg) :
    XMk prog w K mg base C [] (fun _ => True) := by
  intro A R s vs us hr hl _ hb M hlim hroom hq
  have eu : vs = [] := List.length_eq_zero_iff.mp hl
  subst eu
  cases hr
  obtain ⟨nm, q, N, bs, bm, sn, sub, ab, col, dd, k0, k1, k2, k3, k5, hC, hbm⟩ := T.cls
  have X : K.In s.heap := M.kin.keeps hb
  obtain ⟨hp, g, dr, tk, os⟩ := s
  have k : ∀ b o, hp.get? b = some o → ((hp.push (kdv_tup [])).push (HandSPX.excO C hp.objs.size)).get? b = some o := fun b o e => Heap.get?_push_of_some _ (Heap.get?_push_of_some _ e)
  have hget : ((hp.push (kdv_tup [])).push (HandSPX.excO C hp.objs.size)).get? (hp.objs.size + 1) = some (HandSPX.excO C hp.objs.size) := by heap_get
  refine HandSPX.call_own F.excBase_ValueError (fun X => HandSPX.refsVE_contains X bm hbm) (X _ _ hC) (looks_findIn X T.iC) (fun self => bind_fn X self T.tI) (by show 0 ≤ sizeLine; exact Nat.zero_le _) ?_
  refine xinit0 (s := ⟨(hp.push (kdv_tup [])).push (HandSPX.excO C hp.objs.size), g, dr, tk, os⟩) T (fun b o e => k b o (hb b o e)) M hget (hlim.keeps k) ?_ har hself' (fun kV doc pm an ct => hbind _ _ kV doc pm an ct) hcell hks hkc hka hk hco hgen hf (fun L => hmsg L _) fun h' tk' t1 xe => ?_
  · show A.depth + 1 < recursionLimit
    exact hroom
  · have old : ∀ b o, hp.get? b = some o → h'.get? b = some o := fun b o e => xe.keep b o (Nat.ne_of_lt (Nat.lt_succ_of_lt (Heap.lt_size e))) (k b o e)
    exact ⟨rfl, hq h' tk' (hp.objs.size + 1) none ⟨old, Nat.le_succ _, ⟨_, _, xe.obj, rfl, rfl, rfl, rfl⟩, fun _ => rfl, fun d e => by cases e⟩ ⟨fun _ => rfl, fun _ => rfl⟩⟩
theorem mk1 {p0 p1 p2 p3 p4 q1 q2 q3 q4 : Pos} {msg : PySem.Expr} {ar : Arg} {fl ag : Str} {ok : L2.V → Prop} (T : XTxt prog K mg C fI cc cda qual params [stoSt fl ag q1 q2 q3 q4, supSt p0 p1 p2 p3 p4 msg] scope)
    (noN : findIn K (.ref C) fl = some none) (har : (params.posonlyargs ++ params.args).head? = some ar) (hself' : ar.arg = "self")
    (hbind : ∀ s x v kV doc pm an ct, BindsTo s (ksFn "__init__" qual params [stoSt fl ag q1 q2 q3 q4, supSt p0 p1 p2 p3 p4 msg] scope .none kV doc pm an (.ref cda) ct cc) ⟨[.ref x, v], []⟩ [("self", .ref x), (ag, v)])
    (hcell : ∀ y ∈ scope.names, y.2 ≠ .cell) (hks : scope.names.lookup ("super" : Str) = some .globalImplicit) (hkc : scope.names.lookup ("__class__" : Str) = some .free) (hka : scope.names.lookup ("self" : Str) = some .local) (hkg : scope.names.lookup ag = some .local) (hk : scope.kind = .function)
    (hdg : (ag == ("__debug__" : Str)) = false) (hsg : (ag == ("self" : Str)) = false)
    (hco : scope.isCoroutine = false) (hgen : scope.isGenerator = false)
    (hf : ∀ L, XForm (ksEnv qual scope L fI (.ref cda) cc) p0 p1 p2 p3 p4 msg) (hmsg : ∀ L x v u, L2.RelV v u → ok v → MsgRun prog w (ksEnv qual scope L fI (.ref cda) cc) (fun y => [(("self" : Str), Value.ref x), (ag, u)].reverse.lookup y) msg) :
    XMk prog w K mg base C [fl] (fun vs => ∀ v ∈ vs, ok v) := by
  intro A R s vs us hr hl hok hb M hlim hroom hq
  match vs, us, hr, hl with
  | [v], [u], .cons rv .nil, _ =>
  obtain ⟨nm, q, N, bs, bm, sn, sub, ab, col, dd, k0, k1, k2, k3, k5, hC, hbm⟩ := T.cls
  have X : K.In s.heap := M.kin.keeps hb
  obtain ⟨hp, g, dr, tk, os⟩ := s
  have k : ∀ b o, hp.get? b = some o → ((hp.push (kdv_tup [u])).push (HandSPX.excO C hp.objs.size)).get? b = some o := fun b o e => Heap.get?_push_of_some _ (Heap.get?_push_of_some _ e)
  have hget : ((hp.push (kdv_tup [u])).push (HandSPX.excO C hp.objs.size)).get? (hp.objs.size + 1) = some (HandSPX.excO C hp.objs.size) := by heap_get
  have hnb : base.get? (hp.objs.size + 1) = none := by
    cases e : base.get? (hp.objs.size + 1) with
    | none => rfl
    | some o => exact absurd (Nat.lt_of_succ_lt (Heap.lt_size (hb _ _ e))) (Nat.lt_irrefl _)
  refine HandSPX.call_own F.excBase_ValueError (fun X => HandSPX.refsVE_contains X bm hbm) (X _ _ hC) (looks_findIn X T.iC) (fun self => bind_fn X self T.tI) (by show 1 ≤ sizeLine; rw [sizeLine_eq]; decide) ?_
  refine xinit1 (s := ⟨(hp.push (kdv_tup [u])).push (HandSPX.excO C hp.objs.size), g, dr, tk, os⟩) T noN (fun b o e => k b o (hb b o e)) hnb M hget (hlim.keeps k) ?_ har hself' (fun kV doc pm an ct => hbind _ _ _ kV doc pm an ct) hcell hks hkc hka hkg hk hdg hsg hco hgen hf
    (fun L => hmsg L _ v u rv (hok v List.mem_cons_self)) fun h' tk' t1 dx xe => ?_
  · show A.depth + 1 < recursionLimit
    exact hroom
  · have old : ∀ b o, hp.get? b = some o → h'.get? b = some o := fun b o e => xe.keep b o (Nat.ne_of_lt (Nat.lt_succ_of_lt (Heap.lt_size e))) (k b o e)
    obtain ⟨d1, d2, d3⟩ := xe.dct dx rfl
    have z : hp.objs.size ≤ dx := by
      have q := d1
      simp only [Heap.size_push] at q
      omega
    refine ⟨rfl, hq h' tk' (hp.objs.size + 1) (some dx) ⟨old, Nat.le_succ _, ⟨_, _, xe.obj, rfl, rfl, rfl, rfl⟩, fun e => (nomatch e), fun d e => ?_⟩ ⟨fun e => (nomatch e), fun e => (nomatch e)⟩⟩
    injection e with e
    subst e
    refine ⟨z, d2, ?_⟩
    have ef : (fun y : Str => List.lookup y (([fl] : List Str).zip [u])) = fun y => if y = fl then some u else none := by
      funext y
      show List.lookup y [(fl, u)] = _
      by_cases hy : y = fl
      · subst hy
        rw [if_pos rfl, List.lookup, beq_self_eq_true]
      · have qy : (y == fl) = false := by simpa using hy
        rw [if_neg hy, List.lookup, qy]
        rfl
    rw [ef]
    exact d3
end
end PySem.FX

namespace PySem.FX
open PySem PySem.W PySem.Calls PyProof.Rows PySem.Spec
section
variable {prog : Program} {w : World} {env : PySem.Env} {m : Str → Option Value}
theorem msg_const {x : Str} {k : Nat} {pos : Pos} : MsgRun prog w env m (.Constant (.str x) k pos) := fun A E s' hn => wpAny_Constant_str ⟨x, _, _, rfl, rfl⟩
/-- parts of an f-string: at most n code points in all -/
def MPs (prog : Program) (w : World) (env : PySem.Env) (m : Str → Option Value) (es : List PySem.Expr) (n : Nat) : Prop := ∀ (A : Around) (E : Value → Shared → Prop) (s' : Shared) (acc : Str) (Q : Str → Shared → Prop), s'.heap.Ns env.locals m → acc.length + n ≤ 16777216 →
  (∀ acc' tk, acc'.length ≤ acc.length + n → Q acc' { s' with toks := tk }) → Joins (model prog w) A E (evalEach es env) acc Q s'
theorem mps_nil : MPs prog w env m [] 0 := fun A E s' acc Q hn hl hq => hq acc s'.toks (Nat.le_refl _)
theorem mps_cons {e : PySem.Expr} {es : List PySem.Expr} {n k : Nat} (he : ∀ (A : Around) (E : Value → Shared → Prop) (s' : Shared), s'.heap.Ns env.locals m → wpAny (model prog w) A (eval e env) (fun v s2 => ∃ z t tk, v = .str z t ∧ z.length ≤ k ∧ s2 = { s' with toks := tk }) E s')
    (h : MPs prog w env m es n) (hs : evalEach (e :: es) env = eval e env :: evalEach es env := by rfl) : MPs prog w env m (e :: es) (k + n) := by
  intro A E s' acc Q hn hl hq
  rw [hs]
  refine wpAny_mono (he A E s' hn) (fun v s2 hv => ?_) fun _ _ z => z
  obtain ⟨z, t, tk, rfl, hz, rfl⟩ := hv
  have el : (acc ++ z).length = acc.length + z.length := strLen_append ..
  refine ⟨z, t, rfl, by rw [sizeLine_eq, el]; omega, h A E { s' with toks := tk } (acc ++ z) Q hn (by omega) fun acc' tk' hl' => hq acc' tk' (by omega)⟩
theorem msg_join {e1 e2 : PySem.Expr} {es : List PySem.Expr} {pos : Pos} {n : Nat} (h : MPs prog w env m (e1 :: e2 :: es) n) (hn : n ≤ 16777216) : MsgRun prog w env m (.JoinedStr (e1 :: e2 :: es) pos) := by
  intro A E s' hns
  refine wpAny_JoinedStr (h A E s' Str.empty _ hns (by show 0 + n ≤ _; omega) fun acc' tk hl => ⟨by rw [sizeLine_eq]; have : acc'.length ≤ 0 + n := hl; omega, acc', _, _, rfl, rfl⟩)
theorem mp_const {x : Str} {k : Nat} {pos : Pos} (n : Nat) (hx : x.length ≤ n := by decide) : ∀ (A : Around) (E : Value → Shared → Prop) (s' : Shared), s'.heap.Ns env.locals m → wpAny (model prog w) A (eval (.Constant (.str x) k pos) env) (fun v s2 => ∃ z t tk, v = .str z t ∧ z.length ≤ n ∧ s2 = { s' with toks := tk }) E s' :=
  fun A E s' hn => wpAny_Constant_str ⟨x, _, _, rfl, hx, rfl⟩
/-- {name!r}, name a text -/
theorem mp_repr {x : Str} {p pos : Pos} {z : Str} {t : Tok} (hk : env.scope.kind = .function) (hl : env.scope.names.lookup x = some .local) (hm : m x = some (.str z t)) (hz : (reprText z).length ≤ 16000000) (hd : (x == ("__debug__" : Str)) = false := by decide) :
    ∀ (A : Around) (E : Value → Shared → Prop) (s' : Shared), s'.heap.Ns env.locals m → wpAny (model prog w) A (eval (.FormattedValue (.Name x p) 114 none pos) env) (fun v s2 => ∃ z t tk, v = .str z t ∧ z.length ≤ 16000000 ∧ s2 = { s' with toks := tk }) E s' := fun A E s' hn => by
  have hz2 : (reprText z).length ≤ sizeLine := by rw [sizeLine_eq]; omega
  refine wpAny_FormattedValue_repr (wpAny_Name (wpAny_loadName_local hk hl hn hm (pyReprObj_str (wpAny_formatField_str ⟨_, _, _, rfl, hz, rfl⟩ ⟨_, _, _, rfl, hz, rfl⟩ hz2) hz2)) hd)
/-- {name}, name a text -/
theorem mp_plain {x : Str} {p pos : Pos} {z : Str} {t : Tok} (hk : env.scope.kind = .function) (hl : env.scope.names.lookup x = some .local) (hm : m x = some (.str z t)) (hz : z.length ≤ 16000000) (hd : (x == ("__debug__" : Str)) = false := by decide) :
    ∀ (A : Around) (E : Value → Shared → Prop) (s' : Shared), s'.heap.Ns env.locals m → wpAny (model prog w) A (eval (.FormattedValue (.Name x p) (-1) none pos) env) (fun v s2 => ∃ z t tk, v = .str z t ∧ z.length ≤ 16000000 ∧ s2 = { s' with toks := tk }) E s' := fun A E s' hn => by
  have hz2 : z.length ≤ sizeLine := by rw [sizeLine_eq]; omega
  exact wpAny_FormattedValue_plain (wpAny_Name (wpAny_loadName_local hk hl hn hm (wpAny_formatField_str ⟨_, _, _, rfl, hz, rfl⟩ ⟨_, _, _, rfl, hz, rfl⟩ hz2)) hd)
end
end PySem.FX
namespace L2
open PySem PySem.Spec PyProof.Rows
theorem relO_zip {f : Str} : ∀ {fs : List Str} {vs : List V} {us : List Value}, Vals vs us → RelO (List.lookup f (fs.zip vs)) (List.lookup f (fs.zip us))
  | [], _, _, _ => trivial
  | _ :: _, _, _, .nil => trivial
  | g :: fs, _, _, .cons (a := v) (l₁ := vs) (b := u) (l₂ := us) r rs => by
    show RelO (List.lookup f ((g, v) :: fs.zip vs)) (List.lookup f ((g, u) :: fs.zip us))
    rw [List.lookup, List.lookup]
    cases f == g with
    | true => exact r
    | false => exact relO_zip rs
section
variable {X : Cx} {C : Addr} {fs : List Str} {ok : List V → Prop}
/-- C(e, ..) -/
def tMkX (C : Addr) (fs : List Str) (ok : List V → Prop) (ta : TA) : St → Hp → XK → Prop := fun σ H Q => ta σ H fun vs H1 => vs.length = fs.length ∧ ok vs ∧ (fs = [] → Q (.ref C) none H1) ∧ (fs ≠ [] → ∀ d, H1 d = none → Q (.ref C) (some d) (upd H1 d (.xd (fs.zip vs))))
/-- what the text says of the class C as the def's name x calls it -/
structure MkC (X : Cx) (x : Str) (C : Addr) (fs : List Str) (ok : List V → Prop) : Prop where
  mkc : PySem.FX.XMk X.prog X.w X.K X.mg X.base C fs ok
  gC : X.mg x = some (.ref C)
  kC : PySem.W.keepIn X.K (.ref C) = true
  exC : PySem.W.subIn X.K (.ref C) (.type "BaseException") = some true
  tyC : PySem.W.typeIn X.K (.ref C) = some (.type "type")
theorem mk_run {x : Str} {k : Nat} (T : MkC X x C fs ok) (hr : Room k X.A) {pins : List (Addr × Obj)} {σ : St} {H1 : Hp} {s1 : Shared} {Q : XK} {vs : List V} {us : List Value} (I1 : Inv X pins σ H1 s1) (r1 : Vals vs us) (hk : 2 ≤ k)
    (hl : vs.length = fs.length) (hok : ok vs) (q0 : fs = [] → Q (.ref C) none H1) (q1 : fs ≠ [] → ∀ d, H1 d = none → Q (.ref C) (some d) (upd H1 d (.xd (fs.zip vs)))) :
    wpAny (model X.prog X.w) X.A (call (.ref C) us) (MkP X pins σ Q) X.xe s1 := by
  have hlim := I1.nolimit
  obtain ⟨hp, g, dr, tk, os⟩ := s1
  refine wpAny_call (T.mkc X.A _ ⟨hp, g, dr, tk, os⟩ vs us r1 hl hok (fun b o e => (I1.bk b o e)) I1.ok.mod hlim (by have := hr.dp; omega) fun h' tk' e dv M hdv => ?_)
  show MkP X pins σ Q (.ref e) ⟨h', g, dr, tk', os⟩
  obtain ⟨oe, fv, hoe, hc, hd, hdat, h1⟩ := M.obj
  cases dv with
  | none =>
    obtain ⟨G', g1, g2⟩ := restrict h' fun b => decide (b ≠ e)
    have gk : ∀ b, b ≠ e → G'.get? b = h'.get? b := fun b hb => g1 b (decide_eq_true hb)
    have ge : G'.get? e = none := g2 e (by simp)
    have old : ∀ b o, hp.get? b = some o → G'.get? b = some o := fun b o q => (gk b (Nat.ne_of_lt (Nat.lt_of_lt_of_le (Heap.lt_size q) M.new))).trans (M.keep b o q)
    have J : Inv X pins σ H1 ⟨G', g, dr, tk', os⟩ := I1.kept old
    refine ⟨e, oe, fv, ⟨G', g, dr, tk', os⟩, _, .ref C, none, rfl, J, fun b o q => ?_, ge, hoe, ⟨hc, hd⟩, hdat, h1, ?_, rfl, I1.bare, raises_own T.exC T.tyC, q0 (hdv.mp rfl)⟩
    · by_cases hb : b = e
      · have q' : G'.get? b = some o := q
        rw [hb, ge] at q'; cases q'
      · exact (gk b hb).symm.trans q
    · exact I1.hok.fresh M.new
  | some d =>
    obtain ⟨d1, d2, hns⟩ := M.dct d rfl
    obtain ⟨G', g1, g2⟩ := restrict h' fun b => decide (b ≠ e)
    have gk : ∀ b, b ≠ e → G'.get? b = h'.get? b := fun b hb => g1 b (decide_eq_true hb)
    have ge : G'.get? e = none := g2 e (by simp)
    have old : ∀ b o, hp.get? b = some o → G'.get? b = some o := fun b o q => (gk b (Nat.ne_of_lt (Nat.lt_of_lt_of_le (Heap.lt_size q) M.new))).trans (M.keep b o q)
    have ob : ObjOk X.prog X.w (upd H1 d (.xd (fs.zip vs))) G' d (.xd (fs.zip vs)) :=
      ⟨_, hns.at (fun o q => (gk d d2).trans q), fun f => relO_zip r1⟩
    have J : Inv X pins σ (upd H1 d (.xd (fs.zip vs))) ⟨G', g, dr, tk', os⟩ := I1.laid (t' := tk') old d1 ob
    refine ⟨e, oe, fv, ⟨G', g, dr, tk', os⟩, _, .ref C, some d, rfl, J, fun b o q => ?_, ge, hoe, ⟨hc, hd⟩, hdat, h1, ?_, rfl, I1.bare, raises_own T.exC T.tyC, q1 (fun z => by cases hdv.mpr z) d (I1.hok.fresh d1)⟩
    · by_cases hb : b = e
      · have q' : G'.get? b = some o := q
        rw [hb, ge] at q'; cases q'
      · exact (gk b hb).symm.trans q
    · rw [upd_ne (Ne.symm d2)]
      exact I1.hok.fresh M.new
theorem pmk_x {x : Str} {a : Expr} {es : List Expr} {ta : TA} {p pos : Pos} {k : Nat} (T : MkC X x C fs ok) (hr : Room k X.A) (hk : 2 ≤ k) (ha : PA X (a :: es) ta) (hg : Gl X x) (hd : (x == ("__debug__" : Str)) = false := by decide)
    (he : starEach (a :: es) X.env = (false, eval a X.env) :: starEach es X.env := by rfl) (hpl : (backTo pos (starEach es X.env)).any (·.1) = false := by rfl) :
    PMk X (.Call (.Name x p) (a :: es) [] pos) (tMkX C fs ok ta) := by
  intro pins s σ H Q I h
  refine wpAny_Call_Name_kw (ld_glob I hg T.gC ?_ hd)
  refine PySem.W.callWith_K (h₀ := X.base) I.ok.mod.kin T.kC (thn (ha.run pos pins s σ H _ I h) fun us s1 hh => ?_) he hpl
  obtain ⟨vs, H1, I1, r1, hl, hok, q0, q1⟩ := hh
  exact ⟨I1.kIn, mk_run T hr I1 r1 hk hl hok q0 q1⟩
theorem pmk_x0 {x : Str} {p pos : Pos} {k : Nat} (T : MkC X x C fs ok) (hr : Room k X.A) (hk : 2 ≤ k) (hg : Gl X x) (hd : (x == ("__debug__" : Str)) = false := by decide) :
    PMk X (.Call (.Name x p) [] [] pos) (tMkX C fs ok tNil) := by
  intro pins s σ H Q I h
  refine wpAny_Call_Name_kw (ld_glob I hg T.gC ?_ hd)
  obtain ⟨hl, hok, q0, q1⟩ := h
  exact PySem.W.callWith_K0 I.kIn T.kC (mk_run (us := []) T hr I .nil hk hl hok q0 q1)
end
end L2

/-! isinstance of a caught error, with an own dict or without -/
namespace L2
open PySem PyProof.Rows PySem.Spec
/-- isinstance(e, c), e the exception that the suite holds (its class at D, its dict d, tracked with fs) -/
def rIsX (K : PySem.W.Frag) (D a : Addr) (d : Option Addr) : List V → Hp → VK → Prop := fun xs H Q => ∃ (c : V) (cv : Value) (b : Bool), xs = [.ref a, c] ∧ (∀ d', d = some d' → ∃ fs, H d' = some (.xd fs)) ∧ (∀ u, RelV c u → u = cv) ∧ PySem.W.kitOne K (.ref D) cv = some b ∧ Q (.bl b) H
theorem call_isX {X : Cx} {a D : Addr} {d : Option Addr} {oe : Obj} {pn : List (Addr × Obj)} (C : ExcC X.K D) (hz : Zc (.ref D) d oe) (hf : ∃ vs, oe.data = .fields vs) : CallR (X.suite a ((a, oe) :: pn)) (.builtin "isinstance") (rIsX X.K D a d) := by
  intro ps s0 st H xs us Q I rr hyp
  obtain ⟨c, cv, b, rfl, hdd, hcv, eb, q⟩ := hyp
  obtain ⟨vs, hv⟩ := hf
  match us, rr with
  | [_, _], .cons rx (.cons rt .nil) =>
    cases rx
    have ec := hcv _ rt
    subst ec
    have hget := (I.pin (a, oe) (List.mem_append_left _ List.mem_cons_self)).1
    have J : ∃ odd, PySem.W.InstAt s0.heap a oe D odd := by
      cases d with
      | none => exact ⟨none, hget, hz.1, by unfold PySem.W.notCls; rw [hv] <;> rfl, by rw [hz.2]; trivial⟩
      | some dd =>
        obtain ⟨fs, ea⟩ := hdd dd rfl
        obtain ⟨mA, hns, _⟩ := (I.hok dd _ ea : ObjOk X.prog X.w H s0.heap dd (.xd fs))
        obtain ⟨od, ho, _⟩ := lookIn_ns hns
        exact ⟨some od, hget, hz.1, by unfold PySem.W.notCls; rw [hv] <;> rfl, by rw [hz.2]; exact ho⟩
    obtain ⟨odd, J⟩ := J
    have hcl : (PySem.W.clsIn X.K D).isSome = true := by
      obtain ⟨cd, hc, _⟩ := PySem.W.any_some C.hd
      rw [hc]
      rfl
    exact PySem.W.kia_one (PySem.W.kitx_exc (od := odd) hcl C.hg C.hk C.hs C.ha C.hn C.ht C.hm) I.kIn J eb (fun z => nomatch z) fun tk => ⟨.bl b, H, I.kept (t' := tk) fun _ _ z => z, rfl, q⟩
end L2

namespace FD
open PySem L2 PyProof.Rows PySem.Spec
/-! ### calls of defs, by what they promise of their actual arguments -/
def PostO (K : PySem.W.Frag) (A : Ad) (H : Hp) (Q : VK) (E : XK) (o : Out Dt) : Prop := match o with
  | .ok d => ∀ v H', Same H H' → Rep K H' A d v → Q v H'
  | .exc x => ∀ c od H', Same H H' → ExOk K H' x c od → E c od H'
  | .bad => False
def spR (K : PySem.W.Frag) (φ : List Dt → Out Dt) : Sp := fun vs H Q E => ∃ (ds : List Dt) (A : Ad), Reps K H A ds vs ∧ (∀ a, A a → Mut (H a)) ∧ PostO K A H Q E (φ ds)
/-- a def that is called with n arguments -/
def argN (n : Nat) (φ : List Dt → Out Dt) (ds : List Dt) : Out Dt := if ds.length = n then φ ds else .bad
/-- .. with n arguments, or fewer: the last ones are dd -/
def argD (n : Nat) (dd : List Dt) (φ : List Dt → Out Dt) (ds : List Dt) : Out Dt := if ds.length ≤ n ∧ n ≤ ds.length + dd.length then φ (ds ++ dd.drop (ds.length + dd.length - n)) else .bad
/-- .. with n arguments, the rest a tuple -/
def argS (n : Nat) (φ : List Dt → Out Dt) (ds : List Dt) : Out Dt := if n ≤ ds.length ∧ ds.length ≤ 16777216 then φ (ds.take n ++ [.tup (ds.drop n)]) else .bad
structure ClR (P : Program) (w : World) (K : PySem.W.Frag) (mg : Str → Option Value) (base : Heap) (x : Str) (k : Nat) (φ : List Dt → Out Dt) : Prop where
  ex : ∃ (f : Addr), FnR P w K mg base (L2.CX P w) k f (spR K φ) ∧ mg x = some (.ref f) ∧ PySem.W.keepIn K (.ref f) = true
section
variable {P : Program} {w : World} {K : PySem.W.Frag} {mg : Str → Option Value} {base : Heap} {H : Hp} {A : Ad}
theorem cl_of {x : Str} {f : Addr} {fd : FuncData} {ps : List Str} {k n : Nat} {φ : List Dt → Out Dt} (F : FnOk P w K mg base (L2.CX P w) k f fd ps (spD K n φ)) (hm : mg x = some (.ref f)) (hk : PySem.W.keepIn K (.ref f) = true) (hb : Binds K fd ps []) : ClR P w K mg base x k (argN n φ) := by
  refine ⟨f, FnR.imp (F.raw hb .nil) (fun vs H Q E h => ?_), hm, hk⟩
  obtain ⟨ds, A, r, ha, h⟩ := h
  unfold argN at h
  by_cases hl : ds.length = n
  · rw [if_pos hl] at h
    exact ⟨ds, A, by rw [List.append_nil]; exact r, hl, ha, h⟩
  · rw [if_neg hl] at h
    exact False.elim h
theorem fnR_or {k : Nat} {f : Addr} {sp sp' : Sp} (F : FnR P w K mg base (L2.CX P w) k f sp) (F' : FnR P w K mg base (L2.CX P w) k f sp') : FnR P w K mg base (L2.CX P w) k f (fun vs H Q E => sp vs H Q E ∨ sp' vs H Q E) :=
  fun A outer s H us vs Q E hr e0 r h => h.elim (F A outer s H us vs Q E hr e0 r) (F' A outer s H us vs Q E hr e0 r)
/-- one default -/
theorem cl_of1 {x : Str} {f : Addr} {fd : FuncData} {ps : List Str} {k n : Nat} {φ : List Dt → Out Dt} {dv : V} {du : Value} {d : Dt} (F : FnOk P w K mg base (L2.CX P w) k f fd ps (spD K n φ)) (hm : mg x = some (.ref f)) (hk : PySem.W.keepIn K (.ref f) = true) (hb : Binds K fd ps [])
    (hb1 : Binds K fd ps [du]) (hv : RelV dv du) (hd : ∀ H A, Rep K H A d dv) (hn : 0 < n) : ClR P w K mg base x k (argD n [d] φ) := by
  refine ⟨f, FnR.imp (fnR_or (F.raw hb .nil) (F.raw hb1 (.cons hv .nil))) (fun vs H Q E h => ?_), hm, hk⟩
  obtain ⟨ds, A, r, ha, h⟩ := h
  unfold argD at h
  by_cases hl : ds.length ≤ n ∧ n ≤ ds.length + [d].length
  · rw [if_pos hl] at h
    obtain ⟨h1, h2⟩ := hl
    rw [List.length_singleton] at h2 h
    by_cases e : ds.length = n
    · refine .inl ⟨ds, A, by rw [List.append_nil]; exact r, e, ha, ?_⟩
      have e2 : ([d] : List Dt).drop (ds.length + 1 - n) = [] := by
        rw [e, show n + 1 - n = 1 by omega]
        rfl
      rw [e2, List.append_nil] at h
      exact h
    · have e1 : ds.length + 1 = n := by omega
      refine .inr ⟨ds ++ [d], A, r.append (Reps.cons (hd _ _) Reps.nil), by rw [List.length_append, List.length_singleton]; exact e1, ha, ?_⟩
      rw [e1, Nat.sub_self, List.drop_zero] at h
      exact h
  · rw [if_neg hl] at h
    exact False.elim h
/-- a def with a star parameter -/
theorem cl_star {x qual : Str} {name : Str} {params : Arguments} {body : List Stmt} {scope : Scope} {dV kV doc pm cdv ct oc : Value} {an od : Option Addr} {osl : Array (Option Value)} {f : Addr} {N ps : List Str} {pv : Str} {k : Nat} {g : Env → SOut}
    (lk : K.lookup f = some ⟨oc, od, .func (PySem.W.fnOf name qual params body scope dV kV doc pm an cdv ct), osl⟩) (hcd : PySem.W.codeIn K cdv qual = true) (S : FnScope N (ps ++ [pv]) scope)
    (hb : ∀ us rest : List Value, us.length = ps.length → bindArgs (PySem.W.fnOf name qual params body scope dV kV doc pm an cdv ct) ⟨us ++ rest, []⟩ = (newTuple rest >>= fun t => pure (ps.zip us ++ [(pv, t)]))) (hm : mg x = some (.ref f)) (hk : PySem.W.keepIn K (.ref f) = true)
    (hbody : ∀ (A : Around) (outer : List PySem.Env) (s : Shared) (H : Hp) (E : XK), Room k (A.deeper (envOfC qual scope s.heap.objs.size f cdv)) → PSsD (cxOf (L2.CX P w) P w K mg base N qual scope f cdv A outer s H E) (fun c d _ H' => E c d H') body g) :
    ClR P w K mg base x (k + 1) (argS ps.length (runD N.length g)) := by
  refine ⟨f, FnR.imp (StX.fn_star (sp := spD K (ps.length + 1) (runD N.length g)) lk hcd S StX.cxUp hb (fun A outer s H vs Q E hr h => ?_)) (fun vs H Q E h => ?_), hm, hk⟩
  · obtain ⟨ds, A', r, hl, ha, h⟩ := h
    obtain ⟨ts, hp, hd⟩ := hbody A outer s H E hr
    refine ⟨ts, hp, ?_⟩
    refine hd H A' _ _ H _ (start_ok r ha) ?_
    unfold runD at h
    cases e : g (ds.map (fun d => some (Lo.sh d)) ++ List.replicate (N.length - ds.length) none) with
    | ok fl ρ =>
      rw [e] at h
      cases fl with
      | nx => exact fun σ H' s' => h .non H' s'.same rfl
      | rt d => exact fun v H' s' r' => h v H' s' r'
      | bk => exact h.elim
      | ct => exact h.elim
    | exc x ρ =>
      rw [e] at h
      exact fun σ H' c od s' r' => h c od H' s'.same r'
    | bad => rw [e] at h; exact h.elim
  · obtain ⟨ds, A, r, ha, h⟩ := h
    unfold argS at h
    by_cases hl : ps.length ≤ ds.length ∧ ds.length ≤ 16777216
    · rw [if_pos hl] at h
      obtain ⟨h1, h2⟩ := hl
      refine ⟨vs.take ps.length, vs.drop ps.length, (List.take_append_drop _ _).symm, ?_, ?_, fun p hp => ?_⟩
      · rw [List.length_take, r.length]; omega
      · rw [List.length_drop, r.length, sizeLine_eq]; omega
      · have sm : Same H (upd H p (.tup (vs.drop ps.length))) := Same.new hp
        refine ⟨ds.take ps.length ++ [.tup (ds.drop ps.length)], A, Reps.append ((Reps.take _ r).same sm) (Reps.cons ?_ Reps.nil), ?_, fun a z => ?_, ?_⟩
        · unfold Rep
          refine ⟨p, _, rfl, .inl ⟨fun z => ?_, upd_same⟩, (Reps.drop _ r).same sm⟩
          have q := ha p z
          rw [hp] at q
          exact q
        · rw [List.length_append, List.length_take, List.length_singleton]; omega
        · have q := ha a z
          rw [upd_ne]
          · exact q
          · intro e
            rw [e, hp] at q
            exact q
        · cases eo : runD N.length g (ds.take ps.length ++ [.tup (ds.drop ps.length)]) with
          | ok d => rw [eo] at h; exact fun v H' s' r' => h v H' (sm.trans s') r'
          | exc x => rw [eo] at h; exact fun c od H' s' r' => h c od H' (sm.trans s') r'
          | bad => rw [eo] at h; exact h
    · rw [if_neg hl] at h
      exact False.elim h
end
section
variable {X : Cx} {W : WX} {e : Expr} {es : List Expr} {fs : Env → Out (List Dt)} {fe : Env → Out Dt} {lk : List Nat} {p pos sps : Pos} {φ : List Dt → Out Dt}
def eCallR (φ : List Dt → Out Dt) (f : Env → Out (List Dt)) : Env → Out Dt := fun ρ => (f ρ).bind φ
def tCallR (sp : Sp) (E : L2.St → XK) (t : TA) : TE := fun σ H Q => t σ H fun vs H1 => sp vs H1 Q (E σ)
theorem ted_callR {K : PySem.W.Frag} {ta : TA} (ha : TAD K W ta fs lk) : TED K W (tCallR (spR K φ) (WE W) ta) (eCallR φ fs) lk := by
  intro H0 A0 ρ σ H Q s h
  refine ha _ _ _ _ _ _ s (h.seq fun ds _ h1 vs H1 s1 r1 => ?_)
  refine ⟨ds, Av A0 ρ σ lk, r1, fun a z => (s.grow s1).avMut z, ?_⟩
  unfold PostO
  cases eo : φ ds with
  | ok d => rw [eo] at h1; exact fun v H' s' r => h1 v H' (s1.trans s') r
  | exc x => rw [eo] at h1; exact fun c od H' s' r => h1 c od H' (s1.trans s') r
  | bad => rw [eo] at h1; exact h1
theorem run_fnRS {CX : CXT} {k : Nat} {f : Addr} {sp : Sp} {E : L2.St → XK} {Q : VK} {pins : List (Addr × Obj)} {σ : L2.St} {H : Hp} {s : Shared} {us : List Value} {vs : List V} (F : FnR X.prog X.w X.K X.mg X.base CX k f sp) (hr : Room k X.A) (hx : PassesAt CX X σ (E σ)) (I : Inv X pins σ H s) (r : Vals vs us) (h : sp vs H Q (E σ)) :
    wpAny (model X.prog X.w) X.A (call (.ref f) us) (EP X pins σ Q) X.xe s := by
  refine wpAny_call (codeAny_mono (F X.A X.stack s H us vs Q (E σ) hr I.env0 r h) fun r s' hq => ?_)
  cases r with
  | error e => exact hx pins H s e s' I hq
  | ok fl =>
    cases fl with
    | ret u => exact I.after hq
    | next => exact False.elim hq
    | brk => exact False.elim hq
    | cont => exact False.elim hq
theorem pd_callR {x : Str} {k j : Nat} (c : ClR X.prog X.w X.K X.mg X.base x k φ) (tk : Takes X W) (hr : Room j X.A) (hk : k ≤ j) (hg : Gl X x) (ha : PAD X W (e :: es) fs lk) (hdb : (x == ("__debug__" : Str)) = false := by decide)
    (he : starEach (e :: es) X.env = (false, eval e X.env) :: starEach es X.env := by rfl) (hpl : (backTo pos (starEach es X.env)).any (·.1) = false := by rfl) : PED X W (.Call (.Name x p) (e :: es) [] pos) (eCallR φ fs) lk := by
  obtain ⟨f, F, hm, kp⟩ := c.ex
  obtain ⟨ta, pa, da⟩ := ha
  refine ⟨_, ⟨fun pins s σ H Q I h => ?_⟩, ted_callR da⟩
  refine wpAny_Call_Name_kw (ld_glob I hg hm ?_ hdb)
  refine PySem.W.callWith_K (h₀ := X.base) I.ok.mod.kin kp (thn (pa.run pos pins s σ H _ I h) fun us s1 ⟨vs, H1, I1, r, q⟩ => ⟨I1.kIn, ?_⟩) he hpl
  exact run_fnRS F (hr.mono hk) (passAt tk σ) I1 r q
theorem pd_callR0 {x : Str} {k j : Nat} (c : ClR X.prog X.w X.K X.mg X.base x k φ) (tk : Takes X W) (hr : Room j X.A) (hk : k ≤ j) (hg : Gl X x) (hdb : (x == ("__debug__" : Str)) = false := by decide) : PED X W (.Call (.Name x p) [] [] pos) (eCallR φ aNil) [] := by
  obtain ⟨f, F, hm, kp⟩ := c.ex
  refine ⟨tCallR (spR X.K φ) (WE W) tNil, ⟨fun pins s σ H Q I h => ?_⟩, ted_callR tad_nil⟩
  refine wpAny_Call_Name_kw (ld_glob I hg hm ?_ hdb)
  exact PySem.W.callWith_K0 I.kIn kp (run_fnRS (us := []) (vs := []) F (hr.mono hk) (passAt tk σ) I .nil h)
end
/-! ### raise -/
def sRaise (C : Addr) (fns : List Str) (g : List Dt → Bool) (f : Env → Out (List Dt)) : Env → SOut := fun ρ => stE (f ρ) ρ fun ds => if ds.length = fns.length ∧ Dt.pures ds = true ∧ g ds = true then .exc ⟨C, fns.zip ds⟩ ρ else .bad
/-- what is wished of the arguments as data tells what is wished of their values -/
def OkV (K : PySem.W.Frag) (g : List Dt → Bool) (ok : List V → Prop) : Prop := ∀ H A ds vs, Reps K H A ds vs → g ds = true → ok vs
theorem zip_fst {α : Type} : ∀ {fs : List Str} {ds : List α}, ds.length = fs.length → (fs.zip ds).map (·.1) = fs
  | [], [], _ => rfl
  | f :: fs, d :: ds, h => by
    show f :: (fs.zip ds).map (·.1) = f :: fs
    rw [zip_fst (by simpa using h)]
theorem zip_snd {α : Type} : ∀ {fs : List Str} {ds : List α}, ds.length = fs.length → (fs.zip ds).map (·.2) = ds
  | [], [], _ => rfl
  | f :: fs, d :: ds, h => by
    show d :: (fs.zip ds).map (·.2) = d :: ds
    rw [zip_snd (by simpa using h)]
section
variable {K : PySem.W.Frag} {W : WX} {H0 H H1 : Hp} {A0 : Ad} {ρ : Env} {σ : L2.St} {lk la lb : List Nat} {α : Type}
theorem tsd_raise {C : Addr} {fns : List Str} {g : List Dt → Bool} {ok : List V → Prop} {ta : TA} {f : Env → Out (List Dt)} (hok : OkV K g ok) (ha : TAD K W ta f lk) : TSD K W (fun _ σ H => tMkX C fns ok ta σ H fun cls d H' => W cls d σ H') (sRaise C fns g f) := by
  intro H0 A0 ρ σ H D s h
  refine ha _ _ _ _ _ _ s (PostS.st s h fun ds _ h1 vs H1 s1 r1 => ?_)
  split at h1
  · rename_i hc
    obtain ⟨hl, hp, hg⟩ := hc
    have lv : vs.length = fns.length := r1.length.trans hl
    have rN : Reps K H1 NoA ds vs := Reps.anti (fun _ z => False.elim z) r1
    refine ⟨lv, hok _ _ _ _ r1 hg, fun e => ?_, fun ne d hd => ?_⟩
    · subst e
      have e1 : ds = [] := List.length_eq_zero_iff.mp hl
      subst e1
      exact h1 σ H1 _ _ (s.grow s1) ⟨rfl, rfl, rfl⟩
    · refine h1 σ _ _ _ (s.grow (s1.trans (Same.new hd))) ⟨rfl, ?_, _, upd_same, ?_, ?_⟩
      · show Dt.pures ((fns.zip ds).map (·.2)) = true
        rw [zip_snd hl]
        exact hp
      · show (fns.zip vs).map (·.1) = (fns.zip ds).map (·.1)
        rw [zip_fst lv, zip_fst hl]
      · show Reps K _ NoA ((fns.zip ds).map (·.2)) ((fns.zip vs).map (·.2))
        rw [zip_snd lv, zip_snd hl]
        exact rN.same (Same.new hd)
  · exact False.elim h1
end
section
variable {X : Cx} {W : WX} {e : Expr} {es : List Expr} {fs : Env → Out (List Dt)} {lk : List Nat} {p pos pos2 : Pos} {C : Addr} {fns : List Str} {g : List Dt → Bool} {ok : List V → Prop}
theorem s_raise {x : Str} {k : Nat} (hc : X.calm = true) (T : MkC X x C fns ok) (hok : OkV X.K g ok) (tk : Takes X W) (hr : Room k X.A) (hk : 2 ≤ k) (ha : PAD X W (e :: es) fs lk) (hg : Gl X x) (hd : (x == ("__debug__" : Str)) = false := by decide)
    (he : starEach (e :: es) X.env = (false, eval e X.env) :: starEach es X.env := by rfl) (hpl : (backTo pos (starEach es X.env)).any (·.1) = false := by rfl) : PSD X W (.Raise (some (.Call (.Name x p) (e :: es) [] pos)) none pos2) (sRaise C fns g fs) := by
  obtain ⟨ta, pa, da⟩ := ha
  exact ⟨_, ps_raise hc tk (pmk_x T hr hk pa hg hd he hpl), tsd_raise hok da⟩
theorem s_raise0 {x : Str} {k : Nat} (hc : X.calm = true) (T : MkC X x C fns ok) (hok : OkV X.K g ok) (tk : Takes X W) (hr : Room k X.A) (hk : 2 ≤ k) (hg : Gl X x) (hd : (x == ("__debug__" : Str)) = false := by decide) : PSD X W (.Raise (some (.Call (.Name x p) [] [] pos)) none pos2) (sRaise C fns g aNil) :=
  ⟨_, ps_raise hc tk (pmk_x0 T hr hk hg hd), tsd_raise hok tad_nil⟩
end
/-! ### try -/
/-- the canonical reading of statements of meaning g -/
def cS (K : PySem.W.Frag) (W : WX) (g : Env → SOut) : TS := fun D σ H => ∃ (H0 : Hp) (A0 : Ad) (ρ : Env), StOk K H0 A0 H ρ σ ∧ PostS K W H0 A0 (g ρ) D
theorem PSsD.can {X : Cx} {W : WX} {ss : List Stmt} {g : Env → SOut} (h : PSsD X W ss g) : PSs X ss (cS X.K W g) := by
  obtain ⟨ts, hp, hd⟩ := h
  exact ⟨fun pins s σ H D I ⟨H0, A0, ρ, so, po⟩ => hp.run pins s σ H D I (hd H0 A0 ρ σ H D so po)⟩
open Classical in
/-- what a suite gives wherever the exception lies -/
noncomputable def catchX (x : Exn) (run : Addr → Option Addr → SOut) : SOut := if ∃ r, ∀ a d, (d = none → x.fs = []) → run a d = r then run 0 (if x.fs = [] then none else some 0) else .bad
theorem catchX_of {x : Exn} {run : Addr → Option Addr → SOut} {r : SOut} (h : ∀ a d, (d = none → x.fs = []) → run a d = r) : catchX x run = r := by
  unfold catchX
  rw [if_pos ⟨r, h⟩]
  refine h _ _ fun e => ?_
  split at e
  · assumption
  · cases e
theorem catchX_eq {x : Exn} {run : Addr → Option Addr → SOut} {r : SOut} (h : ∀ a d, run a d = r) : catchX x run = r := catchX_of fun a d _ => h a d
theorem catchX_at {x : Exn} {run : Addr → Option Addr → SOut} (hb : catchX x run ≠ .bad) (a : Addr) (d : Option Addr) (hd : d = none → x.fs = []) : run a d = catchX x run := by
  unfold catchX at hb ⊢
  split
  · rename_i h
    obtain ⟨r, h⟩ := h
    rw [h a d hd, h]
    intro e
    split at e
    · assumption
    · cases e
  · rename_i h
    rw [if_neg h] at hb
    exact absurd rfl hb
def unset (i : Nat) : SOut → SOut
  | .ok (.rt d) _ => .ok (.rt d) []
  | .ok f ρ => .ok f (ρ.set i none)
  | _ => .bad
def noSx : SOut → SOut
  | .ok f ρ => .ok f ρ
  | _ => .bad
@[simp] theorem unset_rt (i : Nat) (d : Dt) (ρ : Env) : unset i (.ok (.rt d) ρ) = .ok (.rt d) [] := rfl
@[simp] theorem unset_nx (i : Nat) (ρ : Env) : unset i (.ok .nx ρ) = .ok .nx (ρ.set i none) := rfl
@[simp] theorem unset_bk (i : Nat) (ρ : Env) : unset i (.ok .bk ρ) = .ok .bk (ρ.set i none) := rfl
@[simp] theorem unset_ct (i : Nat) (ρ : Env) : unset i (.ok .ct ρ) = .ok .ct (ρ.set i none) := rfl
@[simp] theorem noSx_ok (f : Fl) (ρ : Env) : noSx (.ok f ρ) = .ok f ρ := rfl
def xAt (x : Exn) (a : Addr) (d : Option Addr) : Dt := .exn a d x.cls (x.fs.map (·.1)) (x.fs.map (·.2))
/-- try: g / except c as (slot i): h -/
noncomputable def sTryAs (K : PySem.W.Frag) (Ds : List Addr) (c : Value) (i : Nat) (g : Env → SOut) (h : Addr → Option Addr → Addr → Env → SOut) : Env → SOut := fun ρ => match g ρ with
  | .exc x ρ1 => (match PySem.W.exmOne K (.ref x.cls) c with
    | some true => if x.cls ∈ Ds then catchX x fun a d => unset i (h a d x.cls (ρ1.set i (some (.sh (xAt x a d))))) else .bad
    | some false => .exc x ρ1
    | none => .bad)
  | o => o
noncomputable def sTryOnly (K : PySem.W.Frag) (c : Value) (g : Env → SOut) (h : Env → SOut) : Env → SOut := fun ρ => match g ρ with
  | .exc x ρ1 => (match PySem.W.exmOne K (.ref x.cls) c with
    | some true => noSx (h ρ1)
    | some false => .exc x ρ1
    | none => .bad)
  | o => o
section
variable {K : PySem.W.Frag} {W : WX} {H0 H H1 : Hp} {A0 : Ad} {ρ : Env} {σ : L2.St} {lk la lb : List Nat}
theorem StOk.gone (s : StOk K H0 A0 H ρ σ) (i : Nat) : StOk K H0 A0 H (ρ.set i none) (σ.set i none) := s.wiped [i]
theorem xAt_rep {x : Exn} {a : Addr} {d : Option Addr} {A : Ad} (hA : ∀ a, A a → Mut (H a)) (h : ExOk K H x (.ref x.cls) d) : Rep K H A (xAt x a d) (.ref a) := by
  obtain ⟨_, hp, h⟩ := h
  unfold xAt Rep
  cases d with
  | none =>
    have e : x.fs = [] := h
    refine ⟨[], rfl, .inl ⟨rfl, rfl⟩, by rw [e]; rfl, ?_⟩
    rw [e]
    exact Reps.nil
  | some d =>
    obtain ⟨fs, h1, h2, h3⟩ := h
    refine ⟨fs, rfl, .inr ⟨d, rfl, fun z => ?_, h1⟩, h2, Reps.pure hA _ _ hp h3⟩
    have q := hA d z
    rw [h1] at q
    exact q
theorem tsd_tryAs {Ds : List Addr} {c : Value} {i : Nat} {g : Env → SOut} {h : Addr → Option Addr → Addr → Env → SOut} :
    TSD K W (fun D σ H => cS K (wAs K c i (fun a cls d D σ H => ∃ C : Addr, cls = .ref C ∧ C ∈ Ds ∧ cS K W0 (h a d C) D σ H) W D) g D σ H) (sTryAs K Ds c i g h) := by
  intro H0 A0 ρ σ H D s hq
  refine ⟨H0, A0, ρ, s, ?_⟩
  unfold sTryAs at hq
  cases e : g ρ with
  | ok f ρ1 =>
    rw [e] at hq
    cases f <;> exact hq
  | bad => rw [e] at hq; exact hq
  | exc x ρ1 =>
    rw [e] at hq
    intro σ1 H1 cv od s1 ex
    obtain ⟨rfl, ex2⟩ := id ex
    simp only at hq
    cases em : PySem.W.exmOne K (.ref x.cls) c with
    | none => rw [em] at hq; exact False.elim hq
    | some b =>
      rw [em] at hq
      cases b with
      | false => exact ⟨false, em, fun z => Bool.noConfusion z, fun _ => hq σ1 H1 _ od s1 ex⟩
      | true =>
        simp only at hq
        by_cases hD : x.cls ∈ Ds
        case neg => rw [if_neg hD] at hq; exact False.elim hq
        rw [if_pos hD] at hq
        refine ⟨true, em, fun _ a na => ⟨x.cls, rfl, hD, H0, A0, ρ1.set i (some (.sh (xAt x a od))), s1.put (xAt_rep (fun a z => s1.avMut z) ex), ?_⟩, fun z => Bool.noConfusion z⟩
        have hb : catchX x (fun a d => unset i (h a d x.cls (ρ1.set i (some (.sh (xAt x a d)))))) ≠ .bad := fun z => by
          rw [z] at hq
          exact hq
        have ea := catchX_at hb a od (fun z => by
          subst z
          exact ex2.2)
        rw [← ea] at hq
        cases eo : h a od x.cls (ρ1.set i (some (.sh (xAt x a od)))) with
        | ok f ρ2 =>
          rw [eo] at hq
          cases f with
          | nx => exact fun σ' H' s' => hq _ _ (s'.gone i)
          | bk => exact fun σ' H' s' => hq _ _ (s'.gone i)
          | ct => exact fun σ' H' s' => hq _ _ (s'.gone i)
          | rt d => exact hq
        | exc y ρ2 => rw [eo] at hq; exact False.elim hq
        | bad => rw [eo] at hq; exact False.elim hq
theorem tsd_tryOnly {c : Value} {g h : Env → SOut} :
    TSD K W (fun D σ H => cS K (wOnly K c (fun a cls d D σ H => cS K W0 h D σ H) W D) g D σ H) (sTryOnly K c g h) := by
  intro H0 A0 ρ σ H D s hq
  refine ⟨H0, A0, ρ, s, ?_⟩
  unfold sTryOnly at hq
  cases e : g ρ with
  | ok f ρ1 =>
    rw [e] at hq
    cases f <;> exact hq
  | bad => rw [e] at hq; exact hq
  | exc x ρ1 =>
    rw [e] at hq
    intro σ1 H1 cv od s1 ex
    obtain ⟨rfl, ex2⟩ := id ex
    simp only at hq
    cases em : PySem.W.exmOne K (.ref x.cls) c with
    | none => rw [em] at hq; exact False.elim hq
    | some b =>
      rw [em] at hq
      cases b with
      | false => exact ⟨false, em, fun z => Bool.noConfusion z, fun _ => hq σ1 H1 _ od s1 ex⟩
      | true =>
        refine ⟨true, em, fun _ a na => ⟨H0, A0, ρ1, s1, ?_⟩, fun z => Bool.noConfusion z⟩
        simp only at hq
        cases eo : h ρ1 with
        | ok f ρ2 =>
          rw [eo] at hq
          cases f <;> exact hq
        | exc y ρ2 => rw [eo] at hq; exact False.elim hq
        | bad => rw [eo] at hq; exact False.elim hq
end
section
variable {X : Cx} {W : WX} {x n : Str} {c : Value} {i : Nat} {body suite : List Stmt} {b₀ : Stmt} {np pos pos' : Pos} {g : Env → SOut}
theorem s_tryAs {h : Addr → Option Addr → Addr → Env → SOut} (i : Nat) (Ds : List Addr) (hs : X.stack = X.env :: X.outer) (hf : X.env.frame = some X.env.locals) (hN : X.N.Nodup) (hc : Names X x c) (tk : Takes X W)
    (hb : ∀ (W : WX) (pn : List (Addr × Obj)) (xe : Value → Shared → Prop), Takes (X.tr pn xe) W → PassesOwn (model X.prog X.w) X.A X.env xe → PSsD (X.tr pn xe) W body g)
    (hsu : ∀ (a : Addr) (oe : Obj) (C : Addr) (d : Option Addr) (pn : List (Addr × Obj)), C ∈ Ds → Zc (.ref C) d oe → (∃ vs, oe.data = .fields vs) → PSsD (X.suite a ((a, oe) :: pn)) W0 (b₀ :: suite) (h a d C)) (hi : X.N[i]? = some n := by rfl) (hln : X.env.kindOf n = some .local := by rfl) :
    PSD X W (.Try body [.ExceptHandler (some (.Name x np)) (some n) (b₀ :: suite) pos'] [] [] pos) (sTryAs X.K Ds c i g h) :=
  ⟨_, ps_try_as (tb := fun W => cS X.K W g) hs hf hN hi hln hc tk (fun W pn xe tk hp => (hb W pn xe tk hp).can) fun a oe cls d pn hz hfl => ⟨fun pins s σ H D I ⟨C, e, hD, hq⟩ => by
    subst e
    exact (hsu a oe C d pn hD hz hfl).can.run pins s σ H D I hq⟩, tsd_tryAs⟩
theorem s_tryOnly {h : Env → SOut} (hs : X.stack = X.env :: X.outer) (hf : X.env.frame = some X.env.locals) (hc : Names X x c) (tk : Takes X W)
    (hb : ∀ (W : WX) (pn : List (Addr × Obj)) (xe : Value → Shared → Prop), Takes (X.tr pn xe) W → PassesOwn (model X.prog X.w) X.A X.env xe → PSsD (X.tr pn xe) W body g)
    (hsu : ∀ (a : Addr) (oe : Obj) (C : Value) (d : Option Addr) (pn : List (Addr × Obj)), Zc C d oe → (∃ vs, oe.data = .fields vs) → PSsD (X.suite a ((a, oe) :: pn)) W0 (b₀ :: suite) h) :
    PSD X W (.Try body [.ExceptHandler (some (.Name x np)) none (b₀ :: suite) pos'] [] [] pos) (sTryOnly X.K c g h) :=
  ⟨_, ps_try_only (tb := fun W => cS X.K W g) hs hf hc tk (fun W pn xe tk hp => (hb W pn xe tk hp).can) fun a oe cls d pn hz hfl => ⟨fun pins s σ H D I hq => (hsu a oe cls d pn hz hfl).can.run pins s σ H D I hq⟩, tsd_tryOnly⟩
end
/-! ### in a suite: isinstance(e, C), e.f -/
def gIsX (K : PySem.W.Frag) (D a : Addr) (od : Option Addr) : List Dt → Option Dt
  | [.exn b d C _ _, c] => if b = a ∧ d = od ∧ C = D then (match c with
    | .cls C' => (PySem.W.kitOne K (.ref D) (.ref C')).map fun b => .bl b
    | .ty n => (PySem.W.kitOne K (.ref D) (.type n)).map fun b => .bl b
    | _ => none) else none
  | _ => none
def gXf (D a : Addr) (od : Option Addr) (f : Str) : Dt → Option Dt
  | .exn b d C ns ds => if b = a ∧ d = od ∧ C = D then (ns.zip ds).lookup f else none
  | _ => none
section
variable {K : PySem.W.Frag} {W : WX} {H0 H H1 : Hp} {A0 A : Ad} {ρ : Env} {σ : L2.St} {lk la lb : List Nat}
theorem cav_isX {D a : Addr} {od : Option Addr} : CaV K (rIsX K D a od) (gIsX K D a od) := by
  intro H A ds d vs Q ha r e q
  unfold gIsX at e
  split at e
  · rename_i b d' C ns fs c
    split at e
    case isFalse => cases e
    rename_i hc
    obtain ⟨rfl, rfl, rfl⟩ := hc
    obtain ⟨v, u, rfl, r1, r2⟩ := reps2 r
    unfold Rep at r1
    obtain ⟨xs, rfl, h1, _⟩ := r1
    have hdd : ∀ d1, d' = some d1 → ∃ fs, H d1 = some (.xd fs) := fun d1 e1 => by
      rcases h1 with ⟨e2, _⟩ | ⟨d2, e2, _, h2⟩
      · rw [e1] at e2; cases e2
      · rw [e1] at e2
        cases e2
        exact ⟨_, h2⟩
    split at e
    · rename_i C'
      have e2 : u = .ref C' := r2
      subst e2
      cases hk : PySem.W.kitOne K (.ref C) (.ref C') with
      | none => rw [hk] at e; cases e
      | some k =>
        rw [hk] at e
        cases e
        exact ⟨.ref C', .ref C', k, rfl, hdd, fun _ z => z, hk, RE.now q rfl⟩
    · rename_i n
      have e2 : u = .ty n := r2
      subst e2
      cases hk : PySem.W.kitOne K (.ref C) (.type n) with
      | none => rw [hk] at e; cases e
      | some k =>
        rw [hk] at e
        cases e
        exact ⟨.ty n, .type n, k, rfl, hdd, fun _ z => z, hk, RE.now q rfl⟩
    · cases e
  · cases e
theorem gIsX_scal {D a : Addr} {od : Option Addr} : ∀ ds d, gIsX K D a od ds = some d → d.scal = true := fun ds d e => by
  unfold gIsX at e
  split at e
  · split at e
    case isFalse => cases e
    split at e
    · rename_i C'
      cases hk : PySem.W.kitOne K (.ref D) (.ref C') with
      | none => rw [hk] at e; cases e
      | some k => rw [hk] at e; cases e; rfl
    · rename_i n
      cases hk : PySem.W.kitOne K (.ref D) (.type n) with
      | none => rw [hk] at e; cases e
      | some k => rw [hk] at e; cases e; rfl
    · cases e
  · cases e
theorem lookup_rep {f : Str} {d : Dt} : ∀ {fs : List (Str × V)} {ds : List Dt}, Reps K H A ds (fs.map (·.2)) → ((fs.map (·.1)).zip ds).lookup f = some d → ∃ v, fs.lookup f = some v ∧ Rep K H A d v
  | [], ds, r, e => by cases e
  | (g, v) :: fs, [], r, e => by cases e
  | (g, v) :: fs, d' :: ds, r, e => by
    unfold Reps at r
    obtain ⟨v', r', e1, r1, r2⟩ := r
    cases e1
    have e2 : List.lookup f ((g, d') :: (fs.map (·.1)).zip ds) = some d := e
    rw [List.lookup] at e2 ⊢
    cases hb : f == g with
    | true =>
      rw [hb] at e2
      cases e2
      exact ⟨_, rfl, r1⟩
    | false =>
      rw [hb] at e2
      exact lookup_rep r2 e2
theorem ted_xf {D a : Addr} {od : Option Addr} {f : Str} {te : TE} {fe : Env → Out Dt} (ha : TED K W te fe la) : TED K W (tXf a (.ref D) od D f te) (e1 fe (gXf D a od f)) la := by
  intro H0 A0 ρ σ H Q s h
  refine ha _ _ _ _ _ _ s (h.seq fun d _ h1 v1 H1 s1 r1 => ?_)
  obtain ⟨d', e, q⟩ := ofO_seq h1
  unfold gXf at e
  split at e
  · rename_i b d2 C ns fs
    split at e
    case isFalse => cases e
    rename_i hc
    obtain ⟨rfl, rfl, rfl⟩ := hc
    unfold Rep at r1
    obtain ⟨xs, rfl, hx1, h2, h3⟩ := r1
    subst h2
    obtain ⟨v, hv, rv⟩ := lookup_rep h3 e
    rcases hx1 with ⟨_, e2⟩ | ⟨dd, e2, _, h4⟩
    · subst e2
      cases hv
    · exact ⟨rfl, rfl, dd, xs, v, e2, h4, hv, q _ _ s1 rv⟩
  · cases e
end
section
variable {X : Cx} {W : WX} {e e2 : Expr} {fs : Env → Out (List Dt)} {fe : Env → Out Dt} {lk : List Nat} {pos p : Pos} {a D : Addr} {oe : Obj} {d : Option Addr} {pn : List (Addr × Obj)}
theorem pd_isX (hz : Zc (.ref D) d oe) (hf : ∃ vs, oe.data = .fields vs) (C : ExcC X.K D) (hg : Gl X "isinstance") (hm : X.mg "isinstance" = none) (ha : PAD (X.suite a ((a, oe) :: pn)) W [e, e2] fs lk) (he : starEach [e, e2] X.env = (false, eval e X.env) :: starEach [e2] X.env := by rfl) (hpl : (backTo pos (starEach [e2] X.env)).any (·.1) = false := by rfl) :
    PED (X.suite a ((a, oe) :: pn)) W (.Call (.Name "isinstance" p) [e, e2] [] pos) (eB (gIsX X.K D a d) fs) [] := by
  obtain ⟨ta, pa, da⟩ := ha
  exact ⟨_, pe_callB (X := X.suite a ((a, oe) :: pn)) (call_isX C hz hf) hg hm PyProof.Rows.boot_isinstance pa (by decide) (by decide) he hpl, ted_bs cav_isX gIsX_scal da⟩
theorem pd_xf {f : Str} (hz : Zc (.ref D) d oe) (hf : ∃ vs, oe.data = .fields vs) (C : XfC X.K D) (hno : PySem.W.findIn X.K (.ref D) f = some none) (ha : PED (X.suite a ((a, oe) :: pn)) W e fe lk) (hb : attributeBase e f X.env (eval e X.env) = eval e X.env := by rfl) :
    PED (X.suite a ((a, oe) :: pn)) W (.Attribute e f pos) (e1 fe (gXf D a d f)) lk := by
  obtain ⟨te, pe, de⟩ := ha
  exact ⟨_, pe_xf C hno hz hf pe hb, ted_xf de⟩
end
end FD

namespace FD
open PySem L2 PyProof.Rows PySem.Spec
/-! ### list comprehensions: the derivation -/
def cE (K : PySem.W.Frag) (W : WX) (f : Env → Out Dt) (lk : List Nat) : TE := fun σ H Q => ∃ (H0 : Hp) (A0 : Ad) (ρ : Env), StOk K H0 A0 H ρ σ ∧ PostX K W H σ (f ρ) (RE K (Av A0 ρ σ lk) H Q)
def cT (K : PySem.W.Frag) (W : WX) (f : Env → Out Bool) : TT := fun σ H Q => ∃ (H0 : Hp) (A0 : Ad) (ρ : Env), StOk K H0 A0 H ρ σ ∧ PostX K W H σ (f ρ) (RT H Q)
def cG (K : PySem.W.Frag) (u : Dt → Env → Option Env) (S : List Nat) : TG := fun v σ H Q => ∃ (H0 : Hp) (A0 : Ad) (ρ ρ' : Env) (d : Dt), StOk K H0 A0 H ρ σ ∧ Rep K H (Av A0 ρ σ []) d v ∧ u d ρ = some ρ' ∧ (∀ σ', StOk K H0 A0 H ρ' σ' → (∀ a, Av A0 ρ' σ' [] a → Av A0 ρ σ [] a) → Out1 S ρ ρ' σ σ' → Q σ' H)
/-- the conditions of a block -/
def PTsD (X : Cx) (W : WX) (es : List Expr) (f : Env → Out Bool) (lk : List Nat) : Prop := ∃ tt, PTs X es tt ∧ TTD X.K W tt f lk
section
variable {X : Cx} {W : WX} {e : Expr} {es : List Expr} {f : Env → Out Dt} {t : Env → Out Bool} {u : Dt → Env → Option Env} {S lk lt le : List Nat}
theorem PED.can (h : PED X W e f lk) : PE X e (cE X.K W f lk) := by
  obtain ⟨te, pe, de⟩ := h
  exact ⟨fun pins s σ H Q I ⟨H0, A0, ρ, so, po⟩ => pe.run pins s σ H Q I (de H0 A0 ρ σ H Q so po)⟩
theorem PTsD.can (h : PTsD X W es t lk) : PTs X es (cT X.K W t) := by
  obtain ⟨te, pe, de⟩ := h
  exact ⟨fun pins s σ H Q I ⟨H0, A0, ρ, so, po⟩ => pe.run pins s σ H Q I (de H0 A0 ρ σ H Q so po)⟩
theorem PGD.can (h : PGD X e u S) : PG X e (cG X.K u S) := by
  obtain ⟨g, pg, dg⟩ := h
  refine ⟨fun pins s σ H v u' Q I r ⟨H0, A0, ρ, ρ', d, so, rr, eu, q⟩ => ?_⟩
  exact pg.run pins s σ H v u' Q I r (dg H0 A0 ρ ρ' σ H d v Q so rr eu q)
def tYesD : Env → Out Bool := fun _ => .ok true
theorem ts_nil : PTsD X W [] tYesD [] := ⟨_, pts_nil, fun H0 A0 ρ σ H Q s h => h H (Same.refl H)⟩
theorem ts_one (h : PTD X W e t lk) : PTsD X W [e] t lk := by
  obtain ⟨te, pe, de⟩ := h
  exact ⟨_, pts_one pe, de⟩
theorem pl_lc {elt tg iter : Expr} {ifs : List Expr} {scope : Scope} {pos : Pos} {src : Env → Out (List Dt)} (own : List (Str × Nat)) (hc : X.calm = true) (hN : X.N.Nodup) (hi : PID X W tg iter src lk)
    (hg : ∀ (s : Shared) (H : Hp) (C : Addr) (cl : List (Str × Addr)) (fp : List Addr), PGD (X.blk s H scope (compEnvC scope cl C X.env) fp) tg u S)
    (ht : ∀ (s : Shared) (H : Hp) (C : Addr) (cl : List (Str × Addr)) (fp : List Addr), PTsD (X.blk s H scope (compEnvC scope cl C X.env) fp) W0 ifs t lt)
    (he : ∀ (s : Shared) (H : Hp) (C : Addr) (cl : List (Str × Addr)) (fp : List Addr), PED (X.blk s H scope (compEnvC scope cl C X.env) fp) W0 elt f le)
    (ok : BlkOk X.N X.env.scope scope own := by exact blkOk_by (by decide +kernel)) (hS : ∀ i ∈ S, i ∈ own.map (·.2) := by decide) (hs : ∀ x, foldedSetIterable iter X.env x = pure x := by intro _; rfl) :
    PLD X W (.ListComp elt [⟨tg, iter, ifs, 0⟩] scope pos) (lLc u (own.map (·.2)) t f src lk) (lk ++ (le ++ own.map (·.2))) := by
  obtain ⟨wi, pi, di⟩ := hi
  refine ⟨_, pe_lc (g := cG X.K u S) (tt := cT X.K W0 t) (te := cE X.K W0 f le) hc hN pi ok (fun s H C cl fp => (hg s H C cl fp).can) (fun s H C cl fp => (ht s H C cl fp).can) (fun s H C cl fp => (he s H C cl fp).can) hs, ?_⟩
  exact tld_lc di (fun H0 A0 ρ ρ' σ H d v Q s r e q => ⟨H0, A0, ρ, ρ', d, s, r, e, q⟩) hS (lt := lt) (fun H0 A0 ρ σ H Q s h => ⟨H0, A0, ρ, s, h⟩) (fun H0 A0 ρ σ H Q s h => ⟨H0, A0, ρ, s, h⟩)
theorem s_setLc {elt tg iter : Expr} {ifs : List Expr} {scope : Scope} {pos py spos : Pos} {src : Env → Out (List Dt)} {y : Str} (i : Nat) (own : List (Str × Nat)) (hc : X.calm = true) (hN : X.N.Nodup) (hi : PID X W tg iter src lk)
    (hg : ∀ (s : Shared) (H : Hp) (C : Addr) (cl : List (Str × Addr)) (fp : List Addr), PGD (X.blk s H scope (compEnvC scope cl C X.env) fp) tg u S)
    (ht : ∀ (s : Shared) (H : Hp) (C : Addr) (cl : List (Str × Addr)) (fp : List Addr), PTsD (X.blk s H scope (compEnvC scope cl C X.env) fp) W0 ifs t lt)
    (he : ∀ (s : Shared) (H : Hp) (C : Addr) (cl : List (Str × Addr)) (fp : List Addr), PED (X.blk s H scope (compEnvC scope cl C X.env) fp) W0 elt f le)
    (hy : X.N[i]? = some y := by rfl) (hyl : X.env.scope.names.lookup y = some .local := by rfl) (hsw : swapsWith (.ListComp elt [⟨tg, iter, ifs, 0⟩] scope pos) (some (.Name y py)) spos.line X.env = pure true := by exact sw_true rfl rfl rfl rfl)
    (ok : BlkOk X.N X.env.scope scope own := by exact blkOk_by (by decide +kernel)) (hS : ∀ i ∈ S, i ∈ own.map (·.2) := by decide) (hs : ∀ x, foldedSetIterable iter X.env x = pure x := by intro _; rfl) :
    PSD X W (.Assign [.Name y py] (.ListComp elt [⟨tg, iter, ifs, 0⟩] scope pos) spos) (sSetL i (lLc u (own.map (·.2)) t f src lk) (lk ++ (le ++ own.map (·.2)))) := by
  obtain ⟨wi, pi, di⟩ := hi
  refine ⟨_, ps_setLc (g := cG X.K u S) (tt := cT X.K W0 t) (te := cE X.K W0 f le) hc hN hy hyl hsw pi ok (fun s H C cl fp => (hg s H C cl fp).can) (fun s H C cl fp => (ht s H C cl fp).can) (fun s H C cl fp => (he s H C cl fp).can) hs, ?_⟩
  exact tsd_setL (tld_lc di (fun H0 A0 ρ ρ' σ H d v Q s r e q => ⟨H0, A0, ρ, ρ', d, s, r, e, q⟩) hS (lt := lt) (fun H0 A0 ρ σ H Q s h => ⟨H0, A0, ρ, s, h⟩) (fun H0 A0 ρ σ H Q s h => ⟨H0, A0, ρ, s, h⟩))
end
end FD

namespace FD
open PySem L2 PyProof.Rows PySem.Spec
/-! ### what the generated texts use -/
theorem bt_int : bootBuiltins "int" = some (.type "int") := by first | rfl | kernel_rfl
theorem bt_bool : bootBuiltins "bool" = some (.type "bool") := by first | rfl | kernel_rfl
theorem bt_str : bootBuiltins "str" = some (.type "str") := by first | rfl | kernel_rfl
theorem bt_tuple : bootBuiltins "tuple" = some (.type "tuple") := by first | rfl | kernel_rfl
theorem bt_list : bootBuiltins "list" = some (.type "list") := by first | rfl | kernel_rfl
theorem bt_dict : bootBuiltins "dict" = some (.type "dict") := by first | rfl | kernel_rfl
theorem bt_ValueError : bootBuiltins "ValueError" = some (.type "ValueError") := by first | rfl | kernel_rfl
open PySem.W in
theorem kit_ne {K : PySem.W.Frag} {t : Value} {C : Addr} {b : Bool} (hne : (t == Value.ref C) = false) (h1 : isClsIn K C = true) (h2 : typeIn K (.ref C) = some (.type "type")) (h3 : subIn K t (.ref C) = some b) : kitOne K t (.ref C) = some b := by
  unfold kitOne kitCls
  rw [hne, if_neg Bool.false_ne_true]
  have h1' : (clsIn K C).isSome = true := h1
  show (if ((clsIn K C).isSome && typeIn K (.ref C) == some (.type "type")) = true then subIn K t (.ref C) else none) = some b
  rw [h1', h2]
  exact h3
open PySem.W in
theorem kit_self {K : PySem.W.Frag} {t : Value} : kitOne K t t = some true := by
  unfold kitOne
  rw [if_pos (beq_self_eq_true t)]
open PySem.W in
theorem kit_typ {K : PySem.W.Frag} {C : Addr} {T : String} {b : Bool} (h1 : kitMeta T = true) (h3 : subIn K (.ref C) (.type T) = some b) : kitOne K (.ref C) (.type T) = some b := by
  have hne : (Value.ref C == Value.type T) = false := rfl
  unfold kitOne kitCls
  rw [hne, if_neg Bool.false_ne_true]
  show (if kitMeta T = true then _ else _) = _
  rw [if_pos h1]
  exact h3
open PySem.W in
theorem exm_of {K : PySem.W.Frag} {t : Value} {C : Addr} {b : Bool} (h0 : subIn K (.ref C) (.type "BaseException") = some true) (h1 : isClsIn K C = true) (h2 : typeIn K (.ref C) = some (.type "type")) (h3 : subIn K t (.ref C) = some b) : exmOne K t (.ref C) = some b := by
  unfold exmOne
  have e0 : (subIn K (.ref C) (.type "BaseException") == some true) = true := by rw [h0]; rfl
  rw [if_pos e0]
  unfold kitCls
  have h1' : (clsIn K C).isSome = true := h1
  show (if ((clsIn K C).isSome && typeIn K (.ref C) == some (.type "type")) = true then subIn K t (.ref C) else none) = some b
  rw [h1', h2]
  exact h3
theorem u64 {k : Nat} {A : Around} (r : Room k A) : A.units + 64 < cLine := by have := r.un; omega
section
variable {P : Program} {w : World} {K : PySem.W.Frag} {mg : Str → Option Value} {base : Heap}
theorem def_okD {x qual : Str} {params : Arguments} {body : List Stmt} {scope : Scope} {dvs : List V} {kws : List (Str × V)} {f : Addr} {fd : FuncData} {N ps : List Str} {k : Nat} {g : Env → SOut} (F : FunD K x qual params body scope dvs kws f fd) (S : FnScope N ps scope)
    (hb : ∀ (cdv : Value) (A : Around) (outer : List PySem.Env) (s : Shared) (H : Hp) (E : XK), Room k (A.deeper (envOfC qual scope s.heap.objs.size f cdv)) →
      PSsD (cxOf (L2.CX P w) P w K mg base N qual scope f cdv A outer s H E) (fun c d _ H' => E c d H') body g) :
    FnOk P w K mg base (L2.CX P w) (k + 1) f fd ps (spD K ps.length (runD N.length g)) := by
  refine F.ok S (fun vs H Q E h => ?_) (fun cdv A outer s H vs Q E hr h => ?_)
  · obtain ⟨ds, A, r, hl, _⟩ := h
    rw [r.length, hl]
  · obtain ⟨ds, A', r, hl, ha, h⟩ := h
    obtain ⟨ts, hp, hd⟩ := hb cdv A outer s H E hr
    refine ⟨ts, hp, ?_⟩
    refine hd H A' _ _ H _ (start_ok r ha) ?_
    unfold runD at h
    cases e : g (ds.map (fun d => some (Lo.sh d)) ++ List.replicate (N.length - ds.length) none) with
    | ok fl ρ =>
      rw [e] at h
      cases fl with
      | nx => exact fun σ H' s' => h .non H' s'.same rfl
      | rt d => exact fun v H' s' r' => h v H' s' r'
      | bk => exact h.elim
      | ct => exact h.elim
    | exc x ρ =>
      rw [e] at h
      exact fun σ H' c od s' r' => h c od H' s'.same r'
    | bad => rw [e] at h; exact h.elim
theorem binds_all {x qual : Str} {params : Arguments} {body : List Stmt} {scope : Scope} {f : Addr} {fd : FuncData} {ps : List Str} (F : FunD K x qual params body scope [] [] f fd)
    (h : ∀ (kV doc pm : Value) (an : Option Addr) (cdv ct : Value) (us : List Value), us.length = ps.length → bindArgs (PySem.W.fnOf x qual params body scope .none kV doc pm an cdv ct) ⟨us, []⟩ = pure (ps.zip us)) : Binds K fd ps [] := by
  obtain ⟨oc, od, dV, kV, doc, pm, an, cdv, ct, osl, rfl, lk, hcd, hD, _⟩ := F.ex
  rcases hD with ⟨_, rfl⟩ | ⟨z, _⟩
  · exact .all (h kV doc pm an cdv ct)
  · exact absurd rfl z
theorem cl_starD {x : Str} {params : Arguments} {body : List Stmt} {scope : Scope} {f : Addr} {fd : FuncData} {N ps : List Str} {pv : Str} {k : Nat} {g : Env → SOut} (F : FunD K x x params body scope [] [] f fd) (S : FnScope N (ps ++ [pv]) scope) (hm : mg x = some (.ref f))
    (hb : ∀ (kV doc pm : Value) (an : Option Addr) (cdv ct : Value) (us rest : List Value), us.length = ps.length → bindArgs (PySem.W.fnOf x x params body scope .none kV doc pm an cdv ct) ⟨us ++ rest, []⟩ = (newTuple rest >>= fun t => pure (ps.zip us ++ [(pv, t)])))
    (hbody : ∀ (cdv : Value) (A : Around) (outer : List PySem.Env) (s : Shared) (H : Hp) (E : XK), Room k (A.deeper (envOfC x scope s.heap.objs.size f cdv)) → PSsD (cxOf (L2.CX P w) P w K mg base N x scope f cdv A outer s H E) (fun c d _ H' => E c d H') body g) :
    ClR P w K mg base x (k + 1) (argS ps.length (runD N.length g)) := by
  obtain ⟨oc, od, dV, kV, doc, pm, an, cdv, ct, osl, rfl, lk, hcd, hD, _⟩ := F.ex
  rcases hD with ⟨_, rfl⟩ | ⟨z, _⟩
  · exact cl_star lk hcd S (hb kV doc pm an cdv ct) hm F.kp (hbody cdv)
  · exact absurd rfl z
/-- a def with one default, as it is called -/
theorem cl_ofD1 {x : Str} {f : Addr} {fd : FuncData} {ps : List Str} {k n : Nat} {φ : List Dt → Out Dt} {dv : V} {d : Dt} (F : FnOk P w K mg base (L2.CX P w) k f fd ps (spD K n φ)) (hm : mg x = some (.ref f)) (hk : PySem.W.keepIn K (.ref f) = true)
    (hb : ∃ ds, Vals [] ds ∧ Binds K fd ps ds) (hb1 : ∃ ds, Vals [dv] ds ∧ Binds K fd ps ds) (hd : ∀ H A, Rep K H A d dv) (hn : 0 < n) : ClR P w K mg base x k (argD n [d] φ) := by
  obtain ⟨d0, r0, b0⟩ := hb
  cases r0
  obtain ⟨d1, r1, b1⟩ := hb1
  cases r1 with
  | cons r rr =>
    cases rr
    exact cl_of1 F hm hk b0 b1 r hd hn
theorem ints_rep {K : PySem.W.Frag} {H : Hp} {A : Ad} : ∀ ns : List Int, Reps K H A (ns.map .int) (ns.map V.int)
  | [] => Reps.nil
  | _ :: ns => Reps.cons rfl (ints_rep ns)
/-- what a law promises -/
def spLaw (K : PySem.W.Frag) : Sp := fun vs H Q _ => ∃ (a : Addr) (ns : List Int), vs = [.ref a] ∧ ns.length ≤ 63 ∧ (∀ z ∈ ns, Builtin.Int.intBits z ≤ 1048576) ∧ Only H ∧ SqL K H a (ns.map V.int) ∧ ∀ H', Q (.bl true) H'
theorem law_imp {k : Nat} {f : Addr} {fd : FuncData} {ps : List Str} {φ : List Dt → Out Dt} (F : FnOk P w K mg base (L2.CX P w) k f fd ps (spD K 1 φ)) (h : ∀ ns : List Int, ns.length ≤ 63 → (∀ z ∈ ns, Builtin.Int.intBits z ≤ 1048576) → φ [.fls (ns.map .int)] = .ok (.bl true)) :
    FnOk P w K mg base (L2.CX P w) k f fd ps (spLaw K) := by
  refine F.imp fun vs H Q E hq => ?_
  obtain ⟨a, ns, rfl, hl, hb, hO, hS, q⟩ := hq
  refine ⟨[.fls (ns.map .int)], NoA, Reps.cons ?_ Reps.nil, rfl, fun _ z => False.elim z, ?_⟩
  · unfold Rep
    refine ⟨a, ns.map V.int, rfl, ?_, ints_rep ns⟩
    rcases hS with (hS | ⟨o, hS⟩) | hS
    · rcases hO a with e | ⟨o, xs, e⟩
      · rw [e] at hS; cases hS
      · rw [e] at hS; cases hS
    · exact .inl ⟨fun z => z, o, hS⟩
    · exact .inr hS
  · rw [h ns hl hb]
    intro v H' _ r
    have e : v = .bl true := r
    subst e
    exact q H'
theorem cx_none {H : Hp} {s : Shared} {e : Value} {s' : Shared} : L2.CX P w [] H s (fun _ _ _ => False) e s' → False := by
  rintro ⟨a, B, H', cls, d, ea, fl, hok, ub, na, os, ag, he⟩
  exact he
theorem walk_law {l : PySem.W.OpenLaw} {k : Nat} {q : Program} {loose : List Str} {XP : (Str → Option Value) → Heap → Prop} {YP : World → Heap → Prop} {d : DefRec} {K : Params → PySem.W.Frag} {x : Str} (hn : l.most = some 63) (hdf : d.params.defaults = []) (hr : Room k callerA)
    (hY : ∀ (w : World) (h : Heap), YP w h → (K w.params).In h)
    (F : ∀ (w : World) (mg : Str → Option Value) (fa : Addr) (h : Heap), (K w.params).In h → h.Ns mainGlobals mg → mg d.name = some (.ref fa) →
      ∃ fd : FuncData, (∀ (s : Shared) (u : Value), BindsTo s fd ⟨[u], []⟩ [(x, u)]) ∧ ∀ base : Heap, (K w.params).In base → base.Ns mainGlobals mg → FnOk l.prog w (K w.params) mg base (L2.CX l.prog w) k fa fd [x] (spLaw (K w.params))) :
    PySem.W.WalkO q loose XP YP l.row.toRowW d [] (fun f vs => PySem.call f vs) :=
  L2.walk_ofB (n := 63) (k := k) (x := x) (CX := fun w => L2.CX l.prog w) (sp := fun w => spLaw (K w.params)) hn (by decide) hdf hr hY F (fun _ _ a ns hl hb hO hS => ⟨a, ns, rfl, hl, hb, hO, hS, fun _ => rfl⟩) fun _ _ _ _ _ z => cx_none z
end
end FD

namespace FD
open PySem L2
/-! ### evaluating meanings: each applied to its slots -/
section
variable {f g : Env → SOut} {ρ : Env} {i : Nat} {lk : List Nat} {e fa fb fc : Env → Out Dt} {fl : Env → Out (List Dt)} {c ft fu : Env → Out Bool} {u : Dt → Env → Option Env}
theorem sSeq_ap : sSeq f g ρ = (f ρ).andThen g := rfl
theorem sNext_ap : sNext ρ = .ok .nx ρ := rfl
theorem sBrk_ap : sBrk ρ = .ok .bk ρ := rfl
theorem sCont_ap : sCont ρ = .ok .ct ρ := rfl
theorem sIf_ap : sIf c f g ρ = stE (c ρ) ρ fun b => if b = true then f ρ else g ρ := rfl
theorem sSet_ap : sSet i e lk ρ = stE (e ρ) ρ fun d => .ok .nx ((frzD d lk ρ).set i (some (.sh d))) := rfl
theorem sSetL_ap : sSetL i fl lk ρ = stE (fl ρ) ρ fun ds => .ok .nx ((frz lk ρ).set i (some (.ol ds))) := rfl
theorem sDrop_ap : sDrop e ρ = stE (e ρ) ρ fun _ => .ok .nx ρ := rfl
theorem sRet_ap : sRet e ρ = stE (e ρ) ρ fun d => .ok (.rt d) ρ := rfl
theorem sRetN_ap : sRetN ρ = .ok (.rt .non) ρ := rfl
theorem sFor_ap : sFor u fl lk g ρ = stE (fl ρ) ρ fun ds => forD u g ds (frz lk ρ) := rfl
theorem sAsg_ap : sAsg u e lk ρ = stE (e ρ) ρ fun d => match u d (frzD d lk ρ) with
  | some ρ' => .ok .nx ρ'
  | none => .bad := rfl
theorem sRaise_ap {C : Addr} {fns : List Str} {gg : List Dt → Bool} : sRaise C fns gg fl ρ = stE (fl ρ) ρ fun ds => if ds.length = fns.length ∧ Dt.pures ds = true ∧ gg ds = true then .exc ⟨C, fns.zip ds⟩ ρ else .bad := rfl
theorem sAppend_ap : sAppend i e lk ρ = match ρ[i]? with
  | some (some (.ol _)) => stE (e ρ) ρ fun d => (match (frzD d lk ρ)[i]? with
    | some (some (.ol ds)) => if ds.length < 16777216 then .ok .nx ((frzD d lk ρ).set i (some (.ol (ds ++ [d])))) else .bad
    | _ => .bad)
  | _ => .bad := rfl
theorem sSetIx_ap : sSetIx i fa e lk ρ = stE (e ρ) ρ fun d => match (frzD d lk ρ)[i]? with
  | some (some (.ol ds)) => stE (fa (frzD d lk ρ)) (frzD d lk ρ) fun k => (match k with
    | .int k => (match ixN ds.length k with
      | some j => .ok .nx ((frzD d lk ρ).set i (some (.ol (ds.set j d))))
      | none => .bad)
    | _ => .bad)
  | _ => .bad := rfl
theorem eC_ap {d : Dt} : eC d ρ = .ok d := rfl
theorem eVar_0 {l : Lo} : eVar 0 (some l :: ρ) = .ok l.d := rfl
theorem eVar_s {l : Option Lo} : eVar (i + 1) (l :: ρ) = eVar i ρ := rfl
theorem e1_ap {gg : Dt → Option Dt} : e1 fa gg ρ = (fa ρ).bind fun a => ofO (gg a) := rfl
theorem e2_ap {gg : Dt → Dt → Option Dt} : e2 fa fb gg ρ = (fa ρ).bind fun a => (fb ρ).bind fun b => ofO (gg a b) := rfl
theorem t1_ap {gg : Dt → Option Bool} : t1 fa gg ρ = (fa ρ).bind fun a => ofO (gg a) := rfl
theorem t2_ap {gg : Dt → Dt → Option Bool} : t2 fa fb gg ρ = (fa ρ).bind fun a => (fb ρ).bind fun b => ofO (gg a b) := rfl
theorem eT_ap : eT ft ρ = (ft ρ).bind fun b => .ok (.bl b) := rfl
theorem tAnd_ap : tAndD ft fu ρ = (ft ρ).bind fun b => if b = true then fu ρ else .ok false := rfl
theorem tOr_ap : tOrD ft fu ρ = (ft ρ).bind fun b => if b = true then .ok true else fu ρ := rfl
theorem tNot_ap : tNotD ft ρ = (ft ρ).bind fun b => .ok (!b) := rfl
theorem eIf_ap : eIfD ft fa fb ρ = (ft ρ).bind fun b => if b = true then fa ρ else fb ρ := rfl
theorem aNil_ap : aNil ρ = .ok [] := rfl
theorem aCons_ap : aCons fa fl ρ = (fa ρ).bind fun d => (fl ρ).bind fun ds => .ok (d :: ds) := rfl
theorem eTup_ap : eTup fl ρ = (fl ρ).bind fun ds => if ds.length ≤ 16777216 then .ok (.tup ds) else .bad := rfl
theorem lLst_ap : lLst fl ρ = (fl ρ).bind fun ds => if ds.length ≤ 16777216 then .ok ds else .bad := rfl
theorem eL_ap : eL fl ρ = (fl ρ).bind fun ds => .ok (.lst ds) := rfl
theorem eB_ap {gg : List Dt → Option Dt} : eB gg fl ρ = (fl ρ).bind fun ds => ofO (gg ds) := rfl
theorem eCallR_ap {φ : List Dt → Out Dt} : eCallR φ fl ρ = (fl ρ).bind φ := rfl
theorem eAnd_ap : eAnd fa fb ρ = (fa ρ).bind fun a => (ofO (blD a)).bind fun b => if b = true then fb ρ else .ok (.bl false) := rfl
theorem eOr_ap : eOr fa fb ρ = (fa ρ).bind fun a => (ofO (blD a)).bind fun b => if b = true then .ok (.bl true) else fb ρ := rfl
theorem eNot_ap : eNot fa ρ = (fa ρ).bind fun a => (ofO (blD a)).bind fun b => .ok (.bl (!b)) := rfl
theorem eChain_ap {g1 g2 : Dt → Dt → Option Bool} : eChain fa fb fc g1 g2 ρ = (fa ρ).bind fun a => (fb ρ).bind fun b => (ofO (g1 a b)).bind fun k => if k = true then (fc ρ).bind fun c => ofO (g2 b c) else .ok false := rfl
theorem oSeq_ap : oSeq fa ρ = (fa ρ).bind fun d => ofO d.seq := rfl
theorem oRange_ap : oRange fl ρ = (fl ρ).bind fun ds => ofO (oRng ds) := rfl
theorem oNone_ap : oNone ρ = .ok none := rfl
theorem oInt_ap : oInt e ρ = (e ρ).bind fun d => match d with
  | .int i => .ok (some i)
  | _ => .bad := rfl
theorem lCut_ap {f1 f2 : Env → Out (Option Int)} : lCut e f1 f2 ρ = (e ρ).bind fun a => (f1 ρ).bind fun lo => (f2 ρ).bind fun hi => ofO (gCutL a lo hi) := rfl
theorem gCutL_lst {ds : List Dt} {lo hi : Option Int} : gCutL (.lst ds) lo hi = some (cutD ds lo hi) := rfl
theorem gCutL_fls {ds : List Dt} {lo hi : Option Int} : gCutL (.fls ds) lo hi = some (cutD ds lo hi) := rfl
theorem frzD_int {z : Int} : frzD (.int z) lk ρ = ρ := rfl
theorem frzD_bl {z : Bool} : frzD (.bl z) lk ρ = ρ := rfl
theorem frzD_str {z : Str} : frzD (.str z) lk ρ = ρ := rfl
theorem frzD_non : frzD .non lk ρ = ρ := rfl
theorem frzD_lst {ds : List Dt} : frzD (.lst ds) lk ρ = frz lk ρ := rfl
theorem frzD_fls {ds : List Dt} : frzD (.fls ds) lk ρ = frz lk ρ := rfl
theorem frzD_nil {d : Dt} : frzD d [] ρ = ρ := by unfold frzD; split <;> rfl
theorem frzD_pure {d : Dt} (h : d.pure = true) : frzD d lk ρ = ρ := by unfold frzD; rw [if_pos h]
/-- from a body's end to the def's -/
def outS : SOut → Out Dt
  | .ok .nx _ => .ok .non
  | .ok (.rt d) _ => .ok d
  | .exc x _ => .exc x
  | _ => .bad
@[simp] theorem outS_nx : outS (.ok .nx ρ) = .ok .non := rfl
@[simp] theorem outS_rt {d : Dt} : outS (.ok (.rt d) ρ) = .ok d := rfl
@[simp] theorem outS_exc {x : Exn} : outS (.exc x ρ) = .exc x := rfl
theorem runD_eq {n : Nat} {ds : List Dt} : runD n g ds = outS (g (ds.map (fun d => some (Lo.sh d)) ++ List.replicate (n - ds.length) none)) := by
  unfold runD outS
  rfl
end
theorem frz1_0 {l : Lo} {ρ : Env} : frz1 (some l :: ρ) 0 = some (.sh l.d) :: ρ := rfl
theorem frz1_n {ρ : Env} : frz1 (none :: ρ) 0 = none :: ρ := rfl
theorem frz1_s {l : Option Lo} {ρ : Env} {i : Nat} : frz1 (l :: ρ) (i + 1) = l :: frz1 ρ i := by
  unfold frz1
  rw [List.getElem?_cons_succ]
  cases ρ[i]? with
  | none => rfl
  | some x => cases x <;> rfl
theorem uName_ap {i : Nat} {d : Dt} {ρ : Env} : uName i d ρ = some (ρ.set i (some (.sh d))) := rfl
theorem uTup_ap {us : List Dt → Env → Option Env} {ds : List Dt} {ρ : Env} : uTup us (.tup ds) ρ = us ds ρ := rfl
theorem uCons_ap {u : Dt → Env → Option Env} {us : List Dt → Env → Option Env} {d : Dt} {ds : List Dt} {ρ : Env} : uCons u us (d :: ds) ρ = (u d ρ).bind fun ρ' => us ds ρ' := rfl
theorem uNil_ap {ρ : Env} : uNil [] ρ = some ρ := rfl
/-- one turn of a loop -/
def turnD (u : Dt → Env → Option Env) (b : Env → SOut) (ds : List Dt) : SOut → SOut
  | .ok .nx ρ => forD u b ds ρ
  | .ok .ct ρ => forD u b ds ρ
  | .ok .bk ρ => .ok .nx ρ
  | o => o
@[simp] theorem turn_nx {u : Dt → Env → Option Env} {b : Env → SOut} {ds : List Dt} {ρ : Env} : turnD u b ds (.ok .nx ρ) = forD u b ds ρ := rfl
@[simp] theorem turn_ct {u : Dt → Env → Option Env} {b : Env → SOut} {ds : List Dt} {ρ : Env} : turnD u b ds (.ok .ct ρ) = forD u b ds ρ := rfl
@[simp] theorem turn_bk {u : Dt → Env → Option Env} {b : Env → SOut} {ds : List Dt} {ρ : Env} : turnD u b ds (.ok .bk ρ) = .ok .nx ρ := rfl
@[simp] theorem turn_rt {u : Dt → Env → Option Env} {b : Env → SOut} {ds : List Dt} {ρ : Env} {d : Dt} : turnD u b ds (.ok (.rt d) ρ) = .ok (.rt d) ρ := rfl
@[simp] theorem turn_exc {u : Dt → Env → Option Env} {b : Env → SOut} {ds : List Dt} {ρ : Env} {x : Exn} : turnD u b ds (.exc x ρ) = .exc x ρ := rfl
theorem forD_c {u : Dt → Env → Option Env} {b : Env → SOut} {d : Dt} {ds : List Dt} {ρ ρ1 : Env} (h : u d ρ = some ρ1) : forD u b (d :: ds) ρ = turnD u b ds (b ρ1) := by
  rw [forD_cons, h]
  show (match b ρ1 with
      | .ok .nx ρ' => forD u b ds ρ'
      | .ok .ct ρ' => forD u b ds ρ'
      | .ok .bk ρ' => .ok .nx ρ'
      | o => o) = _
  cases b ρ1 with
  | ok f ρ' => cases f <;> rfl
  | exc x ρ' => rfl
  | bad => rfl
theorem forD_n {i : Nat} {b : Env → SOut} {d : Dt} {ds : List Dt} {ρ : Env} : forD (uName i) b (d :: ds) ρ = turnD (uName i) b ds (b (ρ.set i (some (.sh d)))) := forD_c rfl
theorem forD_inv {u : Dt → Env → Option Env} {b : Env → SOut} (I : Env → Prop) : ∀ {ds : List Dt} {ρ : Env}, (∀ d ∈ ds, ∀ ρ, I ρ → ∃ ρ1 ρ', u d ρ = some ρ1 ∧ b ρ1 = .ok .nx ρ' ∧ I ρ') → I ρ → ∃ ρ', forD u b ds ρ = .ok .nx ρ' ∧ I ρ'
  | [], ρ, _, hi => ⟨ρ, rfl, hi⟩
  | d :: ds, ρ, h, hi => by
    obtain ⟨ρ1, ρ2, e1, e2, h2⟩ := h d List.mem_cons_self ρ hi
    obtain ⟨ρ3, e3, h3⟩ := forD_inv I (fun d hd => h d (List.mem_cons_of_mem _ hd)) h2
    exact ⟨ρ3, by rw [forD_c e1, e2]; exact e3, h3⟩
theorem sTryAs_exc {K : PySem.W.Frag} {Ds : List Addr} {c : Value} {i : Nat} {g : Env → SOut} {h : Addr → Option Addr → Addr → Env → SOut} {ρ ρ1 : Env} {x : Exn} {r : SOut} (hg : g ρ = .exc x ρ1) (hm : PySem.W.exmOne K (.ref x.cls) c = some true) (hD : x.cls ∈ Ds)
    (hr : ∀ a d, (d = none → x.fs = []) → unset i (h a d x.cls (ρ1.set i (some (.sh (xAt x a d))))) = r) : sTryAs K Ds c i g h ρ = r := by
  unfold sTryAs
  rw [hg]
  simp only [hm, hD, if_true]
  exact catchX_of hr
theorem sTryAs_ok {K : PySem.W.Frag} {Ds : List Addr} {c : Value} {i : Nat} {g : Env → SOut} {h : Addr → Option Addr → Addr → Env → SOut} {ρ ρ1 : Env} {f : Fl} (hg : g ρ = .ok f ρ1) : sTryAs K Ds c i g h ρ = .ok f ρ1 := by
  unfold sTryAs
  rw [hg]
theorem gIsX_cls {K : PySem.W.Frag} {D a C : Addr} {od : Option Addr} {ns : List Str} {ds : List Dt} {b : Bool} (h : PySem.W.kitOne K (.ref D) (.ref C) = some b) : gIsX K D a od [.exn a od D ns ds, .cls C] = some (.bl b) := by
  unfold gIsX
  simp [h]
theorem gIsX_ty {K : PySem.W.Frag} {D a : Addr} {T : String} {od : Option Addr} {ns : List Str} {ds : List Dt} {b : Bool} (h : PySem.W.kitOne K (.ref D) (.type T) = some b) : gIsX K D a od [.exn a od D ns ds, .ty T] = some (.bl b) := by
  unfold gIsX
  simp [h]
theorem sAppend_0 {i : Nat} {f : Env → Out Dt} {lk : List Nat} {ρ : Env} {ds es : List Dt} {d : Dt} (h : ρ[i]? = some (some (.ol ds))) (hf : f ρ = .ok d) (h2 : (frzD d lk ρ)[i]? = some (some (.ol es))) (hl : es.length < 16777216) :
    sAppend i f lk ρ = .ok .nx ((frzD d lk ρ).set i (some (.ol (es ++ [d])))) := by
  unfold sAppend
  rw [h, hf]
  simp only [stE_ok, h2, if_pos hl]
theorem sSetIx_0 {i : Nat} {fi f : Env → Out Dt} {lk : List Nat} {ρ : Env} {ds : List Dt} {d : Dt} {k : Int} {j : Nat} (hf : f ρ = .ok d) (h : (frzD d lk ρ)[i]? = some (some (.ol ds))) (hk : fi (frzD d lk ρ) = .ok (.int k)) (hj : ixN ds.length k = some j) :
    sSetIx i fi f lk ρ = .ok .nx ((frzD d lk ρ).set i (some (.ol (ds.set j d)))) := by
  unfold sSetIx
  rw [hf]
  simp only [stE_ok, h, hk, hj]
theorem atI_map {α β : Type} (f : α → β) (xs : List α) (i : Int) : atI (xs.map f) i = (atI xs i).map f := by
  unfold atI
  rw [List.length_map]
  cases ixN xs.length i with
  | none => rfl
  | some j => exact List.getElem?_map
theorem atI_in {α : Type} {xs : List α} {i : Int} (h0 : 0 ≤ i) (h1 : i < xs.length) : ∃ x, atI xs i = some x ∧ xs[i.toNat]? = some x := by
  have hj : i.toNat < xs.length := by omega
  refine ⟨xs[i.toNat], ?_, List.getElem?_eq_getElem hj⟩
  unfold atI ixN
  rw [if_pos h0, if_pos h1]
  exact List.getElem?_eq_getElem hj
theorem atI_nat {α : Type} (xs : List α) (n : Nat) : atI xs (n : Int) = xs[n]? := by
  unfold atI ixN
  rw [if_pos (by omega)]
  by_cases h : n < xs.length
  · rw [if_pos (by omega)]
    rfl
  · rw [if_neg (by omega), List.getElem?_eq_none (by omega)]
    rfl
theorem atI_0 {α : Type} (a : α) (xs : List α) : atI (a :: xs) 0 = some a := atI_nat (a :: xs) 0
theorem atI_1 {α : Type} (a b : α) (xs : List α) : atI (a :: b :: xs) 1 = some b := atI_nat (a :: b :: xs) 1
theorem atI_2 {α : Type} (a b c : α) (xs : List α) : atI (a :: b :: c :: xs) 2 = some c := atI_nat (a :: b :: c :: xs) 2
theorem atI_3 {α : Type} (a b c d : α) (xs : List α) : atI (a :: b :: c :: d :: xs) 3 = some d := atI_nat (a :: b :: c :: d :: xs) 3
theorem cutD_map {α : Type} (f : α → Dt) (xs : List α) (lo hi : Option Int) : ∃ ys : List α, cutD (xs.map f) lo hi = ys.map f := by
  unfold cutD
  refine ⟨(xs.drop (HT.sIx xs.length 0 lo)).take (HT.sIx xs.length xs.length hi - HT.sIx xs.length 0 lo), ?_⟩
  rw [List.length_map, List.map_take, List.map_drop]
/-! numbers -/
/-- fewer than n bits -/
def Bd (n : Nat) (i : Int) : Prop := i.natAbs < 2 ^ n
theorem Bd.mono {m n : Nat} {i : Int} (h : Bd m i) (hm : m ≤ n) : Bd n i := Nat.lt_of_lt_of_le h (Nat.pow_le_pow_right (by decide) hm)
theorem Bd.mul {m n : Nat} {i j : Int} (h : Bd m i) (k : Bd n j) : Bd (m + n) (i * j) := by
  unfold Bd at *
  rw [Int.natAbs_mul, Nat.pow_add]
  exact Nat.mul_lt_mul'' h k
theorem Bd.add {m n : Nat} {i j : Int} (h : Bd m i) (k : Bd n j) : Bd (max m n + 1) (i + j) := by
  have h1 : i.natAbs < 2 ^ max m n := h.mono (Nat.le_max_left _ _)
  have k1 : j.natAbs < 2 ^ max m n := k.mono (Nat.le_max_right _ _)
  unfold Bd
  rw [Nat.pow_succ]
  have := Int.natAbs_add_le i j
  omega
theorem Bd.neg {n : Nat} {i : Int} (h : Bd n i) : Bd n (-i) := by
  unfold Bd
  rw [Int.natAbs_neg]
  exact h
theorem Bd.sub {m n : Nat} {i j : Int} (h : Bd m i) (k : Bd n j) : Bd (max m n + 1) (i - j) := by
  rw [Int.sub_eq_add_neg]
  exact h.add k.neg
theorem Bd.le {n : Nat} {i j : Int} (h : Bd n i) (k : j.natAbs ≤ i.natAbs) : Bd n j := Nat.lt_of_le_of_lt k h
theorem mulB_of {m n : Nat} {i j : Int} (hi : Bd m i) (hj : Bd n j) (h : m + n ≤ 999000) : mulB i j = true := by
  have hk : ∀ (e k : Nat), k < 2 ^ e → k.log2 ≤ e := fun e k hk => by
    by_cases z : k = 0
    · subst z; simp
    · exact Nat.le_of_lt ((Nat.log2_lt z).mpr hk)
  exact decide_eq_true (by have := hk _ _ hi; have := hk _ _ hj; omega)
theorem divB_of {m : Nat} {i j : Int} (hj : j ≠ 0) (h : Bd m j) (hm : m ≤ 8999) : divB i j = true := by
  refine decide_eq_true ⟨hj, ?_⟩
  have e : j.natAbs ≠ 0 := by omega
  have := (Nat.log2_lt e).mpr h
  omega
theorem nzB_of {i j : Int} (hj : j ≠ 0) : nzB i j = true := decide_eq_true hj
end FD

namespace Lk00
open PySem L2 PyProof.Rows PySem.Spec FD
def top (i : Nat) : Stmt := PySem.Challenge.pw_bidehall_k00_exact_numbers.main.body.getD i (.Pass ⟨0, 0, 0, 0⟩)
def initOf (s : Stmt) : Stmt := match s with
  | .ClassDef _ _ _ b _ _ _ _ _ _ _ => b.getD 0 (.Pass ⟨0, 0, 0, 0⟩)
  | _ => .Pass ⟨0, 0, 0, 0⟩
abbrev s__law_cell : Stmt := top 19
abbrev s__law_signed : Stmt := top 20
abbrev s__law_nonzero : Stmt := top 21
abbrev s__law_shared : Stmt := top 23
abbrev s__law_lowest : Stmt := top 24
abbrev s__law_fractions : Stmt := top 26
abbrev s_exact : Stmt := top 9
abbrev s__law_is_integer : Stmt := top 22
abbrev s__law_right : Stmt := top 25
abbrev s__law_made : Stmt := top 27
abbrev s__law_refused : Stmt := top 28
abbrev s__law_refused_by_base : Stmt := top 29
abbrev s_sum_of : Stmt := top 10
abbrev s_difference : Stmt := top 11
abbrev s_times : Stmt := top 12
abbrev s__law_sums : Stmt := top 30
abbrev s_compared : Stmt := top 13
abbrev s_greatest_of : Stmt := top 14
abbrev s_least_of : Stmt := top 15
abbrev s__law_sign : Stmt := top 31
abbrev s__law_extreme : Stmt := top 32
abbrev s__law_ordered : Stmt := top 33
abbrev s_floor_of : Stmt := top 16
abbrev s_ceiling_of : Stmt := top 17
abbrev s__law_steps : Stmt := top 34
abbrev s_law : Stmt := top 35
abbrev s_ZeroDenominator : Stmt := initOf (top 5)
structure Cs where
  c_ZeroDenominator : Addr
  c_Refused : Addr
  c_NoAnswer : Addr
  c_Unfit : Addr
  c_BadExact : Addr
  c_HouseError : Addr
abbrev Cs.all (cs : Cs) : List Addr := [cs.c_ZeroDenominator]
abbrev fn_ZeroDenominator : List Str := []
def g_ZeroDenominator : List Dt → Bool := fun _ => true
abbrev ok1_ZeroDenominator : V → Prop := fun _ => True
abbrev ok_ZeroDenominator : List V → Prop := (fun _ => True)
theorem okv_ZeroDenominator (K : PySem.W.Frag) : OkV K g_ZeroDenominator ok_ZeroDenominator := fun _ _ _ _ _ _ => trivial
/-- what the top has written -/
structure Tx (P : Program) (w : World) (K : PySem.W.Frag) (mg : Str → Option Value) (base : Heap) (cs : Cs) : Prop where
  n_ValueError : mg "ValueError" = none
  n_abs : mg "abs" = none
  n_bool : mg "bool" = none
  n_int : mg "int" = none
  n_isinstance : mg "isinstance" = none
  n_len : mg "len" = none
  n_range : mg "range" = none
  n_tuple : mg "tuple" = none
  n_gcd : mg "gcd" = some (.builtin "math.gcd")
  g_ZeroDenominator : mg "ZeroDenominator" = some (.ref cs.c_ZeroDenominator)
  g_Refused : mg "Refused" = some (.ref cs.c_Refused)
  g_NoAnswer : mg "NoAnswer" = some (.ref cs.c_NoAnswer)
  g_Unfit : mg "Unfit" = some (.ref cs.c_Unfit)
  g_BadExact : mg "BadExact" = some (.ref cs.c_BadExact)
  g_HouseError : mg "HouseError" = some (.ref cs.c_HouseError)
  m_ZeroDenominator : PySem.FX.XMk P w K mg base cs.c_ZeroDenominator fn_ZeroDenominator ok_ZeroDenominator
  k_ZeroDenominator : PySem.W.keepIn K (.ref cs.c_ZeroDenominator) = true
  e_ZeroDenominator : PySem.W.subIn K (.ref cs.c_ZeroDenominator) (.type "BaseException") = some true
  t_ZeroDenominator : PySem.W.typeIn K (.ref cs.c_ZeroDenominator) = some (.type "type")
  xc : ∀ C : Addr, C ∈ cs.all → ExcC K C
  x_ZeroDenominator_ZeroDenominator : PySem.W.exmOne K (.ref cs.c_ZeroDenominator) (.ref cs.c_ZeroDenominator) = some true
  x_ZeroDenominator_HouseError : PySem.W.exmOne K (.ref cs.c_ZeroDenominator) (.ref cs.c_HouseError) = some true
  i_ZeroDenominator_BadExact : PySem.W.kitOne K (.ref cs.c_ZeroDenominator) (.ref cs.c_BadExact) = some false
  i_ZeroDenominator_Unfit : PySem.W.kitOne K (.ref cs.c_ZeroDenominator) (.ref cs.c_Unfit) = some false
  i_ZeroDenominator_NoAnswer : PySem.W.kitOne K (.ref cs.c_ZeroDenominator) (.ref cs.c_NoAnswer) = some false
  i_ZeroDenominator_Refused : PySem.W.kitOne K (.ref cs.c_ZeroDenominator) (.ref cs.c_Refused) = some true
  i_ZeroDenominator_ValueError : PySem.W.kitOne K (.ref cs.c_ZeroDenominator) (.type "ValueError") = some true
  i_ZeroDenominator_ZeroDenominator : PySem.W.kitOne K (.ref cs.c_ZeroDenominator) (.ref cs.c_ZeroDenominator) = some true
  F__law_cell : ∃ (a : Addr) (fd : FuncData), FunD K "_law_cell" "_law_cell" (defArgs s__law_cell) (defBody s__law_cell) (defScope s__law_cell) [] [] a fd ∧ mg "_law_cell" = some (.ref a)
  F__law_signed : ∃ (a : Addr) (fd : FuncData), FunD K "_law_signed" "_law_signed" (defArgs s__law_signed) (defBody s__law_signed) (defScope s__law_signed) [] [] a fd ∧ mg "_law_signed" = some (.ref a)
  F__law_nonzero : ∃ (a : Addr) (fd : FuncData), FunD K "_law_nonzero" "_law_nonzero" (defArgs s__law_nonzero) (defBody s__law_nonzero) (defScope s__law_nonzero) [] [] a fd ∧ mg "_law_nonzero" = some (.ref a)
  F__law_shared : ∃ (a : Addr) (fd : FuncData), FunD K "_law_shared" "_law_shared" (defArgs s__law_shared) (defBody s__law_shared) (defScope s__law_shared) [] [] a fd ∧ mg "_law_shared" = some (.ref a)
  F__law_lowest : ∃ (a : Addr) (fd : FuncData), FunD K "_law_lowest" "_law_lowest" (defArgs s__law_lowest) (defBody s__law_lowest) (defScope s__law_lowest) [] [] a fd ∧ mg "_law_lowest" = some (.ref a)
  F__law_fractions : ∃ (a : Addr) (fd : FuncData), FunD K "_law_fractions" "_law_fractions" (defArgs s__law_fractions) (defBody s__law_fractions) (defScope s__law_fractions) [] [] a fd ∧ mg "_law_fractions" = some (.ref a)
  F_exact : ∃ (a : Addr) (fd : FuncData), FunD K "exact" "exact" (defArgs s_exact) (defBody s_exact) (defScope s_exact) [(.int 1)] [] a fd ∧ mg "exact" = some (.ref a)
  F__law_is_integer : ∃ (a : Addr) (fd : FuncData), FunD K "_law_is_integer" "_law_is_integer" (defArgs s__law_is_integer) (defBody s__law_is_integer) (defScope s__law_is_integer) [] [] a fd ∧ mg "_law_is_integer" = some (.ref a)
  F__law_right : ∃ (a : Addr) (fd : FuncData), FunD K "_law_right" "_law_right" (defArgs s__law_right) (defBody s__law_right) (defScope s__law_right) [] [] a fd ∧ mg "_law_right" = some (.ref a)
  F__law_made : ∃ (a : Addr) (fd : FuncData), FunD K "_law_made" "_law_made" (defArgs s__law_made) (defBody s__law_made) (defScope s__law_made) [] [] a fd ∧ mg "_law_made" = some (.ref a)
  F__law_refused : ∃ (a : Addr) (fd : FuncData), FunD K "_law_refused" "_law_refused" (defArgs s__law_refused) (defBody s__law_refused) (defScope s__law_refused) [] [] a fd ∧ mg "_law_refused" = some (.ref a)
  F__law_refused_by_base : ∃ (a : Addr) (fd : FuncData), FunD K "_law_refused_by_base" "_law_refused_by_base" (defArgs s__law_refused_by_base) (defBody s__law_refused_by_base) (defScope s__law_refused_by_base) [] [] a fd ∧ mg "_law_refused_by_base" = some (.ref a)
  F_sum_of : ∃ (a : Addr) (fd : FuncData), FunD K "sum_of" "sum_of" (defArgs s_sum_of) (defBody s_sum_of) (defScope s_sum_of) [] [] a fd ∧ mg "sum_of" = some (.ref a)
  F_difference : ∃ (a : Addr) (fd : FuncData), FunD K "difference" "difference" (defArgs s_difference) (defBody s_difference) (defScope s_difference) [] [] a fd ∧ mg "difference" = some (.ref a)
  F_times : ∃ (a : Addr) (fd : FuncData), FunD K "times" "times" (defArgs s_times) (defBody s_times) (defScope s_times) [] [] a fd ∧ mg "times" = some (.ref a)
  F__law_sums : ∃ (a : Addr) (fd : FuncData), FunD K "_law_sums" "_law_sums" (defArgs s__law_sums) (defBody s__law_sums) (defScope s__law_sums) [] [] a fd ∧ mg "_law_sums" = some (.ref a)
  F_compared : ∃ (a : Addr) (fd : FuncData), FunD K "compared" "compared" (defArgs s_compared) (defBody s_compared) (defScope s_compared) [] [] a fd ∧ mg "compared" = some (.ref a)
  F_greatest_of : ∃ (a : Addr) (fd : FuncData), FunD K "greatest_of" "greatest_of" (defArgs s_greatest_of) (defBody s_greatest_of) (defScope s_greatest_of) [] [] a fd ∧ mg "greatest_of" = some (.ref a)
  F_least_of : ∃ (a : Addr) (fd : FuncData), FunD K "least_of" "least_of" (defArgs s_least_of) (defBody s_least_of) (defScope s_least_of) [] [] a fd ∧ mg "least_of" = some (.ref a)
  F__law_sign : ∃ (a : Addr) (fd : FuncData), FunD K "_law_sign" "_law_sign" (defArgs s__law_sign) (defBody s__law_sign) (defScope s__law_sign) [] [] a fd ∧ mg "_law_sign" = some (.ref a)
  F__law_extreme : ∃ (a : Addr) (fd : FuncData), FunD K "_law_extreme" "_law_extreme" (defArgs s__law_extreme) (defBody s__law_extreme) (defScope s__law_extreme) [] [] a fd ∧ mg "_law_extreme" = some (.ref a)
  F__law_ordered : ∃ (a : Addr) (fd : FuncData), FunD K "_law_ordered" "_law_ordered" (defArgs s__law_ordered) (defBody s__law_ordered) (defScope s__law_ordered) [] [] a fd ∧ mg "_law_ordered" = some (.ref a)
  F_floor_of : ∃ (a : Addr) (fd : FuncData), FunD K "floor_of" "floor_of" (defArgs s_floor_of) (defBody s_floor_of) (defScope s_floor_of) [] [] a fd ∧ mg "floor_of" = some (.ref a)
  F_ceiling_of : ∃ (a : Addr) (fd : FuncData), FunD K "ceiling_of" "ceiling_of" (defArgs s_ceiling_of) (defBody s_ceiling_of) (defScope s_ceiling_of) [] [] a fd ∧ mg "ceiling_of" = some (.ref a)
  F__law_steps : ∃ (a : Addr) (fd : FuncData), FunD K "_law_steps" "_law_steps" (defArgs s__law_steps) (defBody s__law_steps) (defScope s__law_steps) [] [] a fd ∧ mg "_law_steps" = some (.ref a)
  F_law : ∃ (a : Addr) (fd : FuncData), FunD K "law" "law" (defArgs s_law) (defBody s_law) (defScope s_law) [] [] a fd ∧ mg "law" = some (.ref a)
section
variable {P : Program} {w : World} {K : PySem.W.Frag} {mg : Str → Option Value} {base : Heap} {cs : Cs}
theorem mkc_ZeroDenominator {X : Cx} (T : Tx X.prog X.w X.K X.mg X.base cs) : MkC X "ZeroDenominator" cs.c_ZeroDenominator fn_ZeroDenominator ok_ZeroDenominator := ⟨T.m_ZeroDenominator, T.g_ZeroDenominator, T.k_ZeroDenominator, T.e_ZeroDenominator, T.t_ZeroDenominator⟩
noncomputable def b__law_cell (K : PySem.W.Frag) (cs : Cs) : FD.Env → SOut :=
  (sSeq (sIf (t2 (eVar 1) (eB gLen (aCons (eVar 0) aNil)) (cI fun i j => decide (i < j))) (sRet (eB gInt (aCons (e2 (eVar 0) (eVar 1) gIx) aNil))) sNext)
    (sSeq (sSet 2 (eC (.int 0)) [])
    (sSeq (sFor (uName 3) (oSeq (eL (lCut (eVar 0) oNone (oInt (eC (.int 8)))))) [0]
    (sSet 2 (e2 (eB gInt (aCons (e2 (e2 (e2 (eVar 2) (eC (.int 48271)) (gI mulB (· * ·))) (eB gInt (aCons (eVar 3) aNil)) gAdd) (eC (.int 1)) gAdd) aNil)) (eC (.int 2147483647)) (gI nzB Int.fmod)) []))
    (sSeq (sSet 4 (e2 (eB gInt (aCons (e2 (e2 (e2 (eVar 2) (eC (.int 69621)) (gI mulB (· * ·))) (e2 (e2 (eVar 1) (eC (.int 1)) gAdd) (eC (.int 1103515245)) (gI mulB (· * ·))) gAdd) (eC (.int 12345)) gAdd) aNil)) (eC (.int 2147483647)) (gI nzB Int.fmod)) [])
    (sRet (e2 (eB gInt (aCons (e2 (e2 (eB gInt (aCons (eVar 4) aNil)) (eVar 4) (gI mulB (· * ·))) (eVar 1) gAdd) aNil)) (eC (.int 2147483629)) (gI nzB Int.fmod)))))))
theorem sc__law_cell : FnScope ["_law_script", "_law_k", "_law_spare", "_law_cell_here", "_law_once"] ["_law_script", "_law_k"] (defScope s__law_cell) := ⟨rfl, rfl, rfl, by decide +kernel, rfl, by decide +kernel, by decide +kernel⟩
noncomputable def m__law_cell (K : PySem.W.Frag) (cs : Cs) : List Dt → Out Dt := argN 2 (runD 5 (b__law_cell K cs))
theorem ok__law_cell (T : Tx P w K mg base cs) {a : Addr} {fd : FuncData} (F : FunD K "_law_cell" "_law_cell" (defArgs s__law_cell) (defBody s__law_cell) (defScope s__law_cell) [] [] a fd) : FnOk P w K mg base (L2.CX P w) 1 a fd ["_law_script", "_law_k"] (spD K 2 (runD 5 (b__law_cell K cs))) :=
  def_okD F sc__law_cell (fun cdv A outer s H E hr =>
    (s_cons (s_if (pt_c cm_lt (pd_var 1) (pd_len (by rfl) T.n_len (pa_consD (pd_var 0) pa_nilD))) (s_one (s_ret (pd_intc (by rfl) T.n_int (pa_consD (pd_ixv 0 (pd_var 1)) pa_nilD)))) s_nil)
    (s_cons (s_set 2 sc__law_cell.nd pd_int)
    (s_cons (s_for (passes_of (by rfl)) (by rfl) (pi_seqD (pd_l (pl_cut (pd_var 0) po_noneD (po_someD pd_int)))) (g_name 3 sc__law_cell.nd)
    (s_one (s_set 2 sc__law_cell.nd (pd_mod (pd_intc (by rfl) T.n_int (pa_consD (pd_add (pd_add (pd_mul (pd_var 2) pd_int) (pd_intc (by rfl) T.n_int (pa_consD (pd_var 3) pa_nilD))) pd_int) pa_nilD)) pd_int))))
    (s_cons (s_set 4 sc__law_cell.nd (pd_mod (pd_intc (by rfl) T.n_int (pa_consD (pd_add (pd_add (pd_mul (pd_var 2) pd_int) (pd_mul (pd_add (pd_var 1) pd_int) pd_int)) pd_int) pa_nilD)) pd_int))
    (s_one (s_ret (pd_mod (pd_intc (by rfl) T.n_int (pa_consD (pd_add (pd_mul (pd_intc (by rfl) T.n_int (pa_consD (pd_var 4) pa_nilD)) (pd_var 4)) (pd_var 1)) pa_nilD)) pd_int))))))))
theorem cl__law_cell (T : Tx P w K mg base cs) : ClR P w K mg base "_law_cell" 1 (m__law_cell K cs) := by
  obtain ⟨a, fd, F, hm⟩ := T.F__law_cell
  exact cl_of (ok__law_cell T F) hm F.kp (binds_all F (fun kV doc pm an cdv ct us hl => match us, hl with | [_, _], _ => rfl))
noncomputable def b__law_signed (K : PySem.W.Frag) (cs : Cs) : FD.Env → SOut :=
  (sSeq (sSet 2 (e2 (e2 (eB gInt (aCons (eVar 0) aNil)) (eC (.int 2)) (gI divB Int.fdiv)) (eVar 1) (gI nzB Int.fmod)) [])
    (sSeq (sIf (t2 (e2 (eB gInt (aCons (eVar 0) aNil)) (eC (.int 2)) (gI nzB Int.fmod)) (eC (.int 1)) eqD) (sRet (e1 (eVar 2) gNeg)) sNext)
    (sRet (eVar 2))))
theorem sc__law_signed : FnScope ["_law_cell_here", "_law_limit", "_law_size"] ["_law_cell_here", "_law_limit"] (defScope s__law_signed) := ⟨rfl, rfl, rfl, by decide +kernel, rfl, by decide +kernel, by decide +kernel⟩
noncomputable def m__law_signed (K : PySem.W.Frag) (cs : Cs) : List Dt → Out Dt := argN 2 (runD 3 (b__law_signed K cs))
theorem ok__law_signed (T : Tx P w K mg base cs) {a : Addr} {fd : FuncData} (F : FunD K "_law_signed" "_law_signed" (defArgs s__law_signed) (defBody s__law_signed) (defScope s__law_signed) [] [] a fd) : FnOk P w K mg base (L2.CX P w) 1 a fd ["_law_cell_here", "_law_limit"] (spD K 2 (runD 3 (b__law_signed K cs))) :=
  def_okD F sc__law_signed (fun cdv A outer s H E hr =>
    (s_cons (s_set 2 sc__law_signed.nd (pd_mod (pd_fdiv (pd_intc (by rfl) T.n_int (pa_consD (pd_var 0) pa_nilD)) pd_int) (pd_var 1)))
    (s_cons (s_if (pt_c (cm_eq (u64 hr)) (pd_mod (pd_intc (by rfl) T.n_int (pa_consD (pd_var 0) pa_nilD)) pd_int) pd_int) (s_one (s_ret (pd_neg (pd_var 2)))) s_nil)
    (s_one (s_ret (pd_var 2))))))
theorem cl__law_signed (T : Tx P w K mg base cs) : ClR P w K mg base "_law_signed" 1 (m__law_signed K cs) := by
  obtain ⟨a, fd, F, hm⟩ := T.F__law_signed
  exact cl_of (ok__law_signed T F) hm F.kp (binds_all F (fun kV doc pm an cdv ct us hl => match us, hl with | [_, _], _ => rfl))
noncomputable def b__law_nonzero (K : PySem.W.Frag) (cs : Cs) : FD.Env → SOut :=
  (sSeq (sSet 2 (eCallR (m__law_signed K cs) (aCons (eVar 0) (aCons (eVar 1) aNil))) [0, 1])
    (sSeq (sIf (t2 (eVar 2) (eC (.int 0)) eqD) (sRet (eC (.int 1))) sNext)
    (sRet (eVar 2))))
theorem sc__law_nonzero : FnScope ["_law_cell_here", "_law_limit", "_law_size"] ["_law_cell_here", "_law_limit"] (defScope s__law_nonzero) := ⟨rfl, rfl, rfl, by decide +kernel, rfl, by decide +kernel, by decide +kernel⟩
noncomputable def m__law_nonzero (K : PySem.W.Frag) (cs : Cs) : List Dt → Out Dt := argN 2 (runD 3 (b__law_nonzero K cs))
theorem ok__law_nonzero (T : Tx P w K mg base cs) {a : Addr} {fd : FuncData} (F : FunD K "_law_nonzero" "_law_nonzero" (defArgs s__law_nonzero) (defBody s__law_nonzero) (defScope s__law_nonzero) [] [] a fd) : FnOk P w K mg base (L2.CX P w) 2 a fd ["_law_cell_here", "_law_limit"] (spD K 2 (runD 3 (b__law_nonzero K cs))) :=
  def_okD F sc__law_nonzero (fun cdv A outer s H E hr =>
    (s_cons (s_set 2 sc__law_nonzero.nd (pd_callR (cl__law_signed T) (takes_of (by rfl) (by rfl) (by rfl) (by rfl)) hr (by decide) (by rfl) (pa_consD (pd_var 0) (pa_consD (pd_var 1) pa_nilD))))
    (s_cons (s_if (pt_c (cm_eq (u64 hr)) (pd_var 2) pd_int) (s_one (s_ret pd_int)) s_nil)
    (s_one (s_ret (pd_var 2))))))
theorem cl__law_nonzero (T : Tx P w K mg base cs) : ClR P w K mg base "_law_nonzero" 2 (m__law_nonzero K cs) := by
  obtain ⟨a, fd, F, hm⟩ := T.F__law_nonzero
  exact cl_of (ok__law_nonzero T F) hm F.kp (binds_all F (fun kV doc pm an cdv ct us hl => match us, hl with | [_, _], _ => rfl))
noncomputable def b__law_shared (K : PySem.W.Frag) (cs : Cs) : FD.Env → SOut :=
  (sSeq (sSet 0 (eB gAbs (aCons (eVar 0) aNil)) [])
    (sSeq (sSet 1 (eB gAbs (aCons (eVar 1) aNil)) [])
    (sSeq (sFor (uName 2) (oRange (aCons (eC (.int 900)) aNil)) []
    (sSeq (sIf (t2 (eVar 1) (eC (.int 0)) eqD) (sRet (eVar 0)) sNext)
    (sSeq (sSet 3 (e2 (eB gInt (aCons (eVar 0) aNil)) (eVar 1) (gI nzB Int.fmod)) [])
    (sSeq (sSet 0 (eVar 1) [1])
    (sSet 1 (eVar 3) [3])))))
    (sRet (eC (.int 0))))))
theorem sc__law_shared : FnScope ["_law_a", "_law_b", "_law_turn", "_law_rest"] ["_law_a", "_law_b"] (defScope s__law_shared) := ⟨rfl, rfl, rfl, by decide +kernel, rfl, by decide +kernel, by decide +kernel⟩
noncomputable def m__law_shared (K : PySem.W.Frag) (cs : Cs) : List Dt → Out Dt := argN 2 (runD 4 (b__law_shared K cs))
theorem ok__law_shared (T : Tx P w K mg base cs) {a : Addr} {fd : FuncData} (F : FunD K "_law_shared" "_law_shared" (defArgs s__law_shared) (defBody s__law_shared) (defScope s__law_shared) [] [] a fd) : FnOk P w K mg base (L2.CX P w) 1 a fd ["_law_a", "_law_b"] (spD K 2 (runD 4 (b__law_shared K cs))) :=
  def_okD F sc__law_shared (fun cdv A outer s H E hr =>
    (s_cons (s_set 0 sc__law_shared.nd (pd_abs (by rfl) T.n_abs (pa_consD (pd_var 0) pa_nilD)))
    (s_cons (s_set 1 sc__law_shared.nd (pd_abs (by rfl) T.n_abs (pa_consD (pd_var 1) pa_nilD)))
    (s_cons (s_for (passes_of (by rfl)) (by rfl) (pi_rng1D (by rfl) T.n_range pd_int) (g_name 2 sc__law_shared.nd)
    (s_cons (s_if (pt_c (cm_eq (u64 hr)) (pd_var 1) pd_int) (s_one (s_ret (pd_var 0))) s_nil)
    (s_cons (s_set 3 sc__law_shared.nd (pd_mod (pd_intc (by rfl) T.n_int (pa_consD (pd_var 0) pa_nilD)) (pd_var 1)))
    (s_cons (s_set 0 sc__law_shared.nd (pd_var 1))
    (s_one (s_set 1 sc__law_shared.nd (pd_var 3)))))))
    (s_one (s_ret pd_int))))))
theorem cl__law_shared (T : Tx P w K mg base cs) : ClR P w K mg base "_law_shared" 1 (m__law_shared K cs) := by
  obtain ⟨a, fd, F, hm⟩ := T.F__law_shared
  exact cl_of (ok__law_shared T F) hm F.kp (binds_all F (fun kV doc pm an cdv ct us hl => match us, hl with | [_, _], _ => rfl))
noncomputable def b__law_lowest (K : PySem.W.Frag) (cs : Cs) : FD.Env → SOut :=
  (sSeq (sSet 2 (eCallR (m__law_shared K cs) (aCons (eVar 0) (aCons (eVar 1) aNil))) [0, 1])
    (sSeq (sIf (t2 (eVar 1) (eC (.int 0)) (cI fun i j => decide (i < j))) (sSet 2 (e1 (eVar 2) gNeg) [2]) sNext)
    (sRet (eTup (aCons (e2 (eVar 0) (eVar 2) (gI divB Int.fdiv)) (aCons (e2 (eVar 1) (eVar 2) (gI divB Int.fdiv)) aNil))))))
theorem sc__law_lowest : FnScope ["_law_n", "_law_d", "_law_shared_here"] ["_law_n", "_law_d"] (defScope s__law_lowest) := ⟨rfl, rfl, rfl, by decide +kernel, rfl, by decide +kernel, by decide +kernel⟩
noncomputable def m__law_lowest (K : PySem.W.Frag) (cs : Cs) : List Dt → Out Dt := argN 2 (runD 3 (b__law_lowest K cs))
theorem ok__law_lowest (T : Tx P w K mg base cs) {a : Addr} {fd : FuncData} (F : FunD K "_law_lowest" "_law_lowest" (defArgs s__law_lowest) (defBody s__law_lowest) (defScope s__law_lowest) [] [] a fd) : FnOk P w K mg base (L2.CX P w) 2 a fd ["_law_n", "_law_d"] (spD K 2 (runD 3 (b__law_lowest K cs))) :=
  def_okD F sc__law_lowest (fun cdv A outer s H E hr =>
    (s_cons (s_set 2 sc__law_lowest.nd (pd_callR (cl__law_shared T) (takes_of (by rfl) (by rfl) (by rfl) (by rfl)) hr (by decide) (by rfl) (pa_consD (pd_var 0) (pa_consD (pd_var 1) pa_nilD))))
    (s_cons (s_if (pt_c cm_lt (pd_var 1) pd_int) (s_one (s_set 2 sc__law_lowest.nd (pd_neg (pd_var 2)))) s_nil)
    (s_one (s_ret (pd_tup (pa_consD (pd_fdiv (pd_var 0) (pd_var 2)) (pa_consD (pd_fdiv (pd_var 1) (pd_var 2)) pa_nilD))))))))
theorem cl__law_lowest (T : Tx P w K mg base cs) : ClR P w K mg base "_law_lowest" 2 (m__law_lowest K cs) := by
  obtain ⟨a, fd, F, hm⟩ := T.F__law_lowest
  exact cl_of (ok__law_lowest T F) hm F.kp (binds_all F (fun kV doc pm an cdv ct us hl => match us, hl with | [_, _], _ => rfl))
noncomputable def b__law_fractions (K : PySem.W.Frag) (cs : Cs) : FD.Env → SOut :=
  (sSeq (sSet 1 (e2 (eL (lLst (aCons (e2 (eC (.int 10)) (eC (.int 20)) (gI powB fun i j => i ^ j.toNat)) (aCons (eC (.int 12)) (aCons (eC (.int 3)) (aCons (eC (.int 1000)) aNil)))))) (e2 (eB gInt (aCons (eCallR (m__law_cell K cs) (aCons (eVar 0) (aCons (eC (.int 9)) aNil))) aNil)) (eC (.int 4)) (gI nzB Int.fmod)) gIx) [])
    (sSeq (sSetL 2 (lLst aNil) [])
    (sSeq (sFor (uName 3) (oRange (aCons (eC (.int 3)) aNil)) []
    (sSeq (sSet 4 (eCallR (m__law_signed K cs) (aCons (eCallR (m__law_cell K cs) (aCons (eVar 0) (aCons (e2 (eC (.int 2)) (eVar 3) (gI mulB (· * ·))) aNil))) (aCons (eVar 1) aNil))) [0, 1])
    (sAppend 2 (eL (lLst (aCons (eVar 4) (aCons (eCallR (m__law_nonzero K cs) (aCons (eCallR (m__law_cell K cs) (aCons (eVar 0) (aCons (e2 (e2 (eC (.int 2)) (eVar 3) (gI mulB (· * ·))) (eC (.int 1)) gAdd) aNil))) (aCons (eVar 1) aNil))) aNil)))) [4, 0, 1])))
    (sSeq (sSet 5 (eCallR (m__law_nonzero K cs) (aCons (eCallR (m__law_cell K cs) (aCons (eVar 0) (aCons (eC (.int 8)) aNil))) (aCons (eVar 1) aNil))) [0, 1])
    (sSeq (sSet 6 (e2 (eB gInt (aCons (eCallR (m__law_cell K cs) (aCons (eVar 0) (aCons (eC (.int 7)) aNil))) aNil)) (eC (.int 5)) (gI nzB Int.fmod)) [])
    (sSeq (sSet 4 (e2 (e2 (eVar 2) (eC (.int 0)) gIx) (eC (.int 0)) gIx) [])
    (sSeq (sSet 7 (e2 (e2 (eVar 2) (eC (.int 0)) gIx) (eC (.int 1)) gIx) [])
    (sSeq (sIf (t2 (eVar 6) (eC (.int 1)) eqD) (sSetIx 2 (eC (.int 1)) (eL (lLst (aCons (e2 (eVar 4) (eVar 5) (gI mulB (· * ·))) (aCons (e2 (eVar 7) (eVar 5) (gI mulB (· * ·))) aNil)))) []) sNext)
    (sSeq (sIf (t2 (eVar 6) (eC (.int 2)) eqD) (sSetIx 2 (eC (.int 1)) (eL (lLst (aCons (e2 (e2 (eVar 4) (eVar 5) (gI mulB (· * ·))) (eC (.int 1)) gAdd) (aCons (e2 (eVar 7) (eVar 5) (gI mulB (· * ·))) aNil)))) []) sNext)
    (sSeq (sIf (t2 (eVar 6) (eC (.int 3)) eqD) (sSetIx 2 (eC (.int 1)) (eL (lLst (aCons (e1 (eVar 4) gNeg) (aCons (eVar 7) aNil)))) [4, 7]) sNext)
    (sSeq (sIf (t2 (eVar 6) (eC (.int 4)) eqD) (sSetIx 2 (eC (.int 1)) (eL (lLst (aCons (e2 (e2 (eVar 2) (eC (.int 1)) gIx) (eC (.int 0)) gIx) (aCons (eVar 7) aNil)))) [7]) sNext)
    (sRet (eVar 2)))))))))))))
theorem sc__law_fractions : FnScope ["_law_script", "_law_limit", "_law_rows", "_law_k", "_law_n", "_law_factor", "_law_way", "_law_d"] ["_law_script"] (defScope s__law_fractions) := ⟨rfl, rfl, rfl, by decide +kernel, rfl, by decide +kernel, by decide +kernel⟩
noncomputable def m__law_fractions (K : PySem.W.Frag) (cs : Cs) : List Dt → Out Dt := argN 1 (runD 8 (b__law_fractions K cs))
theorem ok__law_fractions (T : Tx P w K mg base cs) {a : Addr} {fd : FuncData} (F : FunD K "_law_fractions" "_law_fractions" (defArgs s__law_fractions) (defBody s__law_fractions) (defScope s__law_fractions) [] [] a fd) : FnOk P w K mg base (L2.CX P w) 3 a fd ["_law_script"] (spD K 1 (runD 8 (b__law_fractions K cs))) :=
  def_okD F sc__law_fractions (fun cdv A outer s H E hr =>
    (s_cons (s_set 1 sc__law_fractions.nd (pd_ix (pd_l (pl_lst (pa_consD (pd_pow pd_int pd_int) (pa_consD pd_int (pa_consD pd_int (pa_consD pd_int pa_nilD)))))) (pd_mod (pd_intc (by rfl) T.n_int (pa_consD (pd_callR (cl__law_cell T) (takes_of (by rfl) (by rfl) (by rfl) (by rfl)) hr (by decide) (by rfl) (pa_consD (pd_var 0) (pa_consD pd_int pa_nilD))) pa_nilD)) pd_int)))
    (s_cons (s_setL 2 sc__law_fractions.nd (pl_lst pa_nilD))
    (s_cons (s_for (passes_of (by rfl)) (by rfl) (pi_rng1D (by rfl) T.n_range pd_int) (g_name 3 sc__law_fractions.nd)
    (s_cons (s_set 4 sc__law_fractions.nd (pd_callR (cl__law_signed T) (takes_of (by rfl) (by rfl) (by rfl) (by rfl)) hr (by decide) (by rfl) (pa_consD (pd_callR (cl__law_cell T) (takes_of (by rfl) (by rfl) (by rfl) (by rfl)) hr (by decide) (by rfl) (pa_consD (pd_var 0) (pa_consD (pd_mul pd_int (pd_var 3)) pa_nilD))) (pa_consD (pd_var 1) pa_nilD))))
    (s_one (s_append 2 (pd_l (pl_lst (pa_consD (pd_var 4) (pa_consD (pd_callR (cl__law_nonzero T) (takes_of (by rfl) (by rfl) (by rfl) (by rfl)) hr (by decide) (by rfl) (pa_consD (pd_callR (cl__law_cell T) (takes_of (by rfl) (by rfl) (by rfl) (by rfl)) hr (by decide) (by rfl) (pa_consD (pd_var 0) (pa_consD (pd_add (pd_mul pd_int (pd_var 3)) pd_int) pa_nilD))) (pa_consD (pd_var 1) pa_nilD))) pa_nilD))))))))
    (s_cons (s_set 5 sc__law_fractions.nd (pd_callR (cl__law_nonzero T) (takes_of (by rfl) (by rfl) (by rfl) (by rfl)) hr (by decide) (by rfl) (pa_consD (pd_callR (cl__law_cell T) (takes_of (by rfl) (by rfl) (by rfl) (by rfl)) hr (by decide) (by rfl) (pa_consD (pd_var 0) (pa_consD pd_int pa_nilD))) (pa_consD (pd_var 1) pa_nilD))))
    (s_cons (s_set 6 sc__law_fractions.nd (pd_mod (pd_intc (by rfl) T.n_int (pa_consD (pd_callR (cl__law_cell T) (takes_of (by rfl) (by rfl) (by rfl) (by rfl)) hr (by decide) (by rfl) (pa_consD (pd_var 0) (pa_consD pd_int pa_nilD))) pa_nilD)) pd_int))
    (s_cons (s_set 4 sc__law_fractions.nd (pd_ix (pd_ixv 2 pd_int) pd_int))
    (s_cons (s_set 7 sc__law_fractions.nd (pd_ix (pd_ixv 2 pd_int) pd_int))
    (s_cons (s_if (pt_c (cm_eq (u64 hr)) (pd_var 6) pd_int) (s_one (s_setIx 2 (pd_l (pl_lst (pa_consD (pd_mul (pd_var 4) (pd_var 5)) (pa_consD (pd_mul (pd_var 7) (pd_var 5)) pa_nilD)))) pd_int)) s_nil)
    (s_cons (s_if (pt_c (cm_eq (u64 hr)) (pd_var 6) pd_int) (s_one (s_setIx 2 (pd_l (pl_lst (pa_consD (pd_add (pd_mul (pd_var 4) (pd_var 5)) pd_int) (pa_consD (pd_mul (pd_var 7) (pd_var 5)) pa_nilD)))) pd_int)) s_nil)
    (s_cons (s_if (pt_c (cm_eq (u64 hr)) (pd_var 6) pd_int) (s_one (s_setIx 2 (pd_l (pl_lst (pa_consD (pd_neg (pd_var 4)) (pa_consD (pd_var 7) pa_nilD)))) pd_int)) s_nil)
    (s_cons (s_if (pt_c (cm_eq (u64 hr)) (pd_var 6) pd_int) (s_one (s_setIx 2 (pd_l (pl_lst (pa_consD (pd_ix (pd_ixv 2 pd_int) pd_int) (pa_consD (pd_var 7) pa_nilD)))) pd_int)) s_nil)
    (s_one (s_ret (pd_var 2)))))))))))))))
theorem cl__law_fractions (T : Tx P w K mg base cs) : ClR P w K mg base "_law_fractions" 3 (m__law_fractions K cs) := by
  obtain ⟨a, fd, F, hm⟩ := T.F__law_fractions
  exact cl_of (ok__law_fractions T F) hm F.kp (binds_all F (fun kV doc pm an cdv ct us hl => match us, hl with | [_], _ => rfl))
noncomputable def b_exact (K : PySem.W.Frag) (cs : Cs) : FD.Env → SOut :=
  (sSeq (sIf (t2 (eVar 1) (eC (.int 0)) eqD) (sRaise cs.c_ZeroDenominator fn_ZeroDenominator g_ZeroDenominator aNil) sNext)
    (sSeq (sSet 2 (eB gGcd (aCons (eVar 0) (aCons (eVar 1) aNil))) [])
    (sSeq (sIf (t2 (eVar 1) (eC (.int 0)) (cI fun i j => decide (i < j))) (sSet 2 (e1 (eVar 2) gNeg) [2]) sNext)
    (sRet (eTup (aCons (e2 (eVar 0) (eVar 2) (gI divB Int.fdiv)) (aCons (e2 (eVar 1) (eVar 2) (gI divB Int.fdiv)) aNil)))))))
theorem sc_exact : FnScope ["n", "d", "common"] ["n", "d"] (defScope s_exact) := ⟨rfl, rfl, rfl, by decide +kernel, rfl, by decide +kernel, by decide +kernel⟩
noncomputable def m_exact (K : PySem.W.Frag) (cs : Cs) : List Dt → Out Dt := argD 2 [(.int 1)] (runD 3 (b_exact K cs))
theorem cl_exact (T : Tx P w K mg base cs) : ClR P w K mg base "exact" 3 (m_exact K cs) := by
  obtain ⟨a, fd, F, hm⟩ := T.F_exact
  exact cl_ofD1 (def_okD F sc_exact (fun cdv A outer s H E hr =>
    (s_cons (s_if (pt_c (cm_eq (u64 hr)) (pd_var 1) pd_int) (s_one (s_raise0 (by rfl) (mkc_ZeroDenominator T) (okv_ZeroDenominator K) (takes_of (by rfl) (by rfl) (by rfl) (by rfl)) hr (by decide) (by rfl))) s_nil)
    (s_cons (s_set 2 sc_exact.nd (pd_gcd (by rfl) T.n_gcd (pa_consD (pd_var 0) (pa_consD (pd_var 1) pa_nilD))))
    (s_cons (s_if (pt_c cm_lt (pd_var 1) pd_int) (s_one (s_set 2 sc_exact.nd (pd_neg (pd_var 2)))) s_nil)
    (s_one (s_ret (pd_tup (pa_consD (pd_fdiv (pd_var 0) (pd_var 2)) (pa_consD (pd_fdiv (pd_var 1) (pd_var 2)) pa_nilD)))))))))) hm F.kp (F.binds1 (ps := ["n", "d"]) 2 1 (by simp) rfl (fun T kV doc pm an cdv ct us its h1 h2 => match us, its, h1, h2 with | [_, _], [_], _, _ => ⟨_, rfl, rfl⟩))
    (F.binds1 (ps := ["n", "d"]) 1 0 (by simp) rfl (fun T kV doc pm an cdv ct us its h1 h2 => match us, its, h1, h2 with | [_], [_], _, _ => ⟨_, rfl, rfl⟩)) (fun _ _ => rfl) (by decide)
noncomputable def b__law_is_integer (K : PySem.W.Frag) (cs : Cs) : FD.Env → SOut :=
  (sRet (eAnd (eB gIsi (aCons (eVar 0) (aCons (eC (.ty "int")) aNil))) (eNot (eB gIsi (aCons (eVar 0) (aCons (eC (.ty "bool")) aNil))))))
theorem sc__law_is_integer : FnScope ["_law_value"] ["_law_value"] (defScope s__law_is_integer) := ⟨rfl, rfl, rfl, by decide +kernel, rfl, by decide +kernel, by decide +kernel⟩
noncomputable def m__law_is_integer (K : PySem.W.Frag) (cs : Cs) : List Dt → Out Dt := argN 1 (runD 1 (b__law_is_integer K cs))
theorem ok__law_is_integer (T : Tx P w K mg base cs) {a : Addr} {fd : FuncData} (F : FunD K "_law_is_integer" "_law_is_integer" (defArgs s__law_is_integer) (defBody s__law_is_integer) (defScope s__law_is_integer) [] [] a fd) : FnOk P w K mg base (L2.CX P w) 1 a fd ["_law_value"] (spD K 1 (runD 1 (b__law_is_integer K cs))) :=
  def_okD F sc__law_is_integer (fun cdv A outer s H E hr =>
    (s_one (s_ret (pd_and (pd_isi (by rfl) T.n_isinstance (pa_consD (pd_var 0) (pa_consD (pd_type (by rfl) T.n_int bt_int) pa_nilD))) (pd_one (pd_not (pd_isi (by rfl) T.n_isinstance (pa_consD (pd_var 0) (pa_consD (pd_type (by rfl) T.n_bool bt_bool) pa_nilD)))))))))
theorem cl__law_is_integer (T : Tx P w K mg base cs) : ClR P w K mg base "_law_is_integer" 1 (m__law_is_integer K cs) := by
  obtain ⟨a, fd, F, hm⟩ := T.F__law_is_integer
  exact cl_of (ok__law_is_integer T F) hm F.kp (binds_all F (fun kV doc pm an cdv ct us hl => match us, hl with | [_], _ => rfl))
noncomputable def b__law_right (K : PySem.W.Frag) (cs : Cs) : FD.Env → SOut :=
  (sSeq (sIf (tOrD (tNotD (t1 (eB gIsi (aCons (eVar 0) (aCons (eC (.ty "tuple")) aNil))) truD)) (t2 (eB gLen (aCons (eVar 0) aNil)) (eC (.int 2)) neD)) (sRet (eC (.bl false))) sNext)
    (sSeq (sIf (tOrD (tNotD (t1 (eCallR (m__law_is_integer K cs) (aCons (e2 (eVar 0) (eC (.int 0)) gIx) aNil)) truD)) (tNotD (t1 (eCallR (m__law_is_integer K cs) (aCons (e2 (eVar 0) (eC (.int 1)) gIx) aNil)) truD))) (sRet (eC (.bl false))) sNext)
    (sRet (eAnd (eT (t2 (e2 (eVar 0) (eC (.int 1)) gIx) (eC (.int 1)) (cI fun i j => decide (j ≤ i)))) (eAnd (eT (t2 (e2 (e2 (eVar 0) (eC (.int 0)) gIx) (eVar 2) (gI mulB (· * ·))) (e2 (eVar 1) (e2 (eVar 0) (eC (.int 1)) gIx) (gI mulB (· * ·))) eqD)) (eT (t2 (eCallR (m__law_shared K cs) (aCons (e2 (eVar 0) (eC (.int 0)) gIx) (aCons (e2 (eVar 0) (eC (.int 1)) gIx) aNil))) (eC (.int 1)) eqD)))))))
theorem sc__law_right : FnScope ["_law_value", "_law_n", "_law_d"] ["_law_value", "_law_n", "_law_d"] (defScope s__law_right) := ⟨rfl, rfl, rfl, by decide +kernel, rfl, by decide +kernel, by decide +kernel⟩
noncomputable def m__law_right (K : PySem.W.Frag) (cs : Cs) : List Dt → Out Dt := argN 3 (runD 3 (b__law_right K cs))
theorem ok__law_right (T : Tx P w K mg base cs) {a : Addr} {fd : FuncData} (F : FunD K "_law_right" "_law_right" (defArgs s__law_right) (defBody s__law_right) (defScope s__law_right) [] [] a fd) : FnOk P w K mg base (L2.CX P w) 2 a fd ["_law_value", "_law_n", "_law_d"] (spD K 3 (runD 3 (b__law_right K cs))) :=
  def_okD F sc__law_right (fun cdv A outer s H E hr =>
    (s_cons (s_if (ptw (pw_orD (pt_notD (pt_v (pd_isi (by rfl) T.n_isinstance (pa_consD (pd_var 0) (pa_consD (pd_type (by rfl) T.n_tuple bt_tuple) pa_nilD))))) (pw_or1D (pt_c (cm_ne (u64 hr)) (pd_len (by rfl) T.n_len (pa_consD (pd_var 0) pa_nilD)) pd_int)))) (s_one (s_ret pd_bl)) s_nil)
    (s_cons (s_if (ptw (pw_orD (pt_notD (pt_v (pd_callR (cl__law_is_integer T) (takes_of (by rfl) (by rfl) (by rfl) (by rfl)) hr (by decide) (by rfl) (pa_consD (pd_ixv 0 pd_int) pa_nilD)))) (pw_or1D (pt_notD (pt_v (pd_callR (cl__law_is_integer T) (takes_of (by rfl) (by rfl) (by rfl) (by rfl)) hr (by decide) (by rfl) (pa_consD (pd_ixv 0 pd_int) pa_nilD))))))) (s_one (s_ret pd_bl)) s_nil)
    (s_one (s_ret (pd_and (pd_c cm_ge (pd_ixv 0 pd_int) pd_int) (pd_and (pd_c (cm_eq (u64 hr)) (pd_mul (pd_ixv 0 pd_int) (pd_var 2)) (pd_mul (pd_var 1) (pd_ixv 0 pd_int))) (pd_one (pd_c (cm_eq (u64 hr)) (pd_callR (cl__law_shared T) (takes_of (by rfl) (by rfl) (by rfl) (by rfl)) hr (by decide) (by rfl) (pa_consD (pd_ixv 0 pd_int) (pa_consD (pd_ixv 0 pd_int) pa_nilD))) pd_int)))))))))
theorem cl__law_right (T : Tx P w K mg base cs) : ClR P w K mg base "_law_right" 2 (m__law_right K cs) := by
  obtain ⟨a, fd, F, hm⟩ := T.F__law_right
  exact cl_of (ok__law_right T F) hm F.kp (binds_all F (fun kV doc pm an cdv ct us hl => match us, hl with | [_, _, _], _ => rfl))
noncomputable def b__law_made (K : PySem.W.Frag) (cs : Cs) : FD.Env → SOut :=
  (sSeq (sSet 3 (eCallR (m__law_lowest K cs) (aCons (eVar 0) (aCons (eVar 1) aNil))) [0, 1])
    (sSeq (sIf (tOrD (tNotD (t1 (eCallR (m__law_right K cs) (aCons (eCallR (m_exact K cs) (aCons (eVar 0) (aCons (eVar 1) aNil))) (aCons (eVar 0) (aCons (eVar 1) aNil)))) truD)) (tNotD (t1 (eCallR (m__law_right K cs) (aCons (eCallR (m_exact K cs) (aCons (eVar 0) aNil)) (aCons (eVar 0) (aCons (eC (.int 1)) aNil)))) truD))) (sRet (eC (.bl false))) sNext)
    (sRet (eCallR (m__law_right K cs) (aCons (eCallR (m_exact K cs) (aCons (e2 (e2 (eVar 3) (eC (.int 0)) gIx) (eVar 2) (gI mulB (· * ·))) (aCons (e2 (e2 (eVar 3) (eC (.int 1)) gIx) (eVar 2) (gI mulB (· * ·))) aNil))) (aCons (eVar 0) (aCons (eVar 1) aNil)))))))
theorem sc__law_made : FnScope ["_law_n", "_law_d", "_law_factor", "_law_lowest_here"] ["_law_n", "_law_d", "_law_factor"] (defScope s__law_made) := ⟨rfl, rfl, rfl, by decide +kernel, rfl, by decide +kernel, by decide +kernel⟩
noncomputable def m__law_made (K : PySem.W.Frag) (cs : Cs) : List Dt → Out Dt := argN 3 (runD 4 (b__law_made K cs))
theorem ok__law_made (T : Tx P w K mg base cs) {a : Addr} {fd : FuncData} (F : FunD K "_law_made" "_law_made" (defArgs s__law_made) (defBody s__law_made) (defScope s__law_made) [] [] a fd) : FnOk P w K mg base (L2.CX P w) 4 a fd ["_law_n", "_law_d", "_law_factor"] (spD K 3 (runD 4 (b__law_made K cs))) :=
  def_okD F sc__law_made (fun cdv A outer s H E hr =>
    (s_cons (s_set 3 sc__law_made.nd (pd_callR (cl__law_lowest T) (takes_of (by rfl) (by rfl) (by rfl) (by rfl)) hr (by decide) (by rfl) (pa_consD (pd_var 0) (pa_consD (pd_var 1) pa_nilD))))
    (s_cons (s_if (ptw (pw_orD (pt_notD (pt_v (pd_callR (cl__law_right T) (takes_of (by rfl) (by rfl) (by rfl) (by rfl)) hr (by decide) (by rfl) (pa_consD (pd_callR (cl_exact T) (takes_of (by rfl) (by rfl) (by rfl) (by rfl)) hr (by decide) (by rfl) (pa_consD (pd_var 0) (pa_consD (pd_var 1) pa_nilD))) (pa_consD (pd_var 0) (pa_consD (pd_var 1) pa_nilD)))))) (pw_or1D (pt_notD (pt_v (pd_callR (cl__law_right T) (takes_of (by rfl) (by rfl) (by rfl) (by rfl)) hr (by decide) (by rfl) (pa_consD (pd_callR (cl_exact T) (takes_of (by rfl) (by rfl) (by rfl) (by rfl)) hr (by decide) (by rfl) (pa_consD (pd_var 0) pa_nilD)) (pa_consD (pd_var 0) (pa_consD pd_int pa_nilD))))))))) (s_one (s_ret pd_bl)) s_nil)
    (s_one (s_ret (pd_callR (cl__law_right T) (takes_of (by rfl) (by rfl) (by rfl) (by rfl)) hr (by decide) (by rfl) (pa_consD (pd_callR (cl_exact T) (takes_of (by rfl) (by rfl) (by rfl) (by rfl)) hr (by decide) (by rfl) (pa_consD (pd_mul (pd_ixv 3 pd_int) (pd_var 2)) (pa_consD (pd_mul (pd_ixv 3 pd_int) (pd_var 2)) pa_nilD))) (pa_consD (pd_var 0) (pa_consD (pd_var 1) pa_nilD)))))))))
theorem cl__law_made (T : Tx P w K mg base cs) : ClR P w K mg base "_law_made" 4 (m__law_made K cs) := by
  obtain ⟨a, fd, F, hm⟩ := T.F__law_made
  exact cl_of (ok__law_made T F) hm F.kp (binds_all F (fun kV doc pm an cdv ct us hl => match us, hl with | [_, _, _], _ => rfl))
noncomputable def b__law_refused (K : PySem.W.Frag) (cs : Cs) : FD.Env → SOut :=
  (sSeq (sTryAs K cs.all (.ref cs.c_ZeroDenominator) 1 (sDrop (eCallR (m_exact K cs) (aCons (eVar 0) (aCons (eC (.int 0)) aNil))))
    (fun a d C => (sSeq (sSet 2 (eOr (eB (gIsX K C a d) (aCons (eVar 1) (aCons (eC (.cls cs.c_BadExact)) aNil))) (eOr (eB (gIsX K C a d) (aCons (eVar 1) (aCons (eC (.cls cs.c_Unfit)) aNil))) (eB (gIsX K C a d) (aCons (eVar 1) (aCons (eC (.cls cs.c_NoAnswer)) aNil))))) [])
    (sRet (eAnd (eB (gIsX K C a d) (aCons (eVar 1) (aCons (eC (.cls cs.c_Refused)) aNil))) (eAnd (eB (gIsX K C a d) (aCons (eVar 1) (aCons (eC (.ty "ValueError")) aNil))) (eNot (eVar 2))))))))
    (sRet (eC (.bl false))))
theorem sc__law_refused : FnScope ["_law_n", "e", "_law_other"] ["_law_n"] (defScope s__law_refused) := ⟨rfl, rfl, rfl, by decide +kernel, rfl, by decide +kernel, by decide +kernel⟩
noncomputable def m__law_refused (K : PySem.W.Frag) (cs : Cs) : List Dt → Out Dt := argN 1 (runD 3 (b__law_refused K cs))
theorem ok__law_refused (T : Tx P w K mg base cs) {a : Addr} {fd : FuncData} (F : FunD K "_law_refused" "_law_refused" (defArgs s__law_refused) (defBody s__law_refused) (defScope s__law_refused) [] [] a fd) : FnOk P w K mg base (L2.CX P w) 4 a fd ["_law_n"] (spD K 1 (runD 3 (b__law_refused K cs))) :=
  def_okD F sc__law_refused (fun cdv A outer s H E hr =>
    (s_cons (s_tryAs 1 cs.all (by rfl) (by rfl) sc__law_refused.nd ⟨by rfl, by decide, .inl T.g_ZeroDenominator⟩ (takes_of (by rfl) (by rfl) (by rfl) (by rfl)) (fun W3 pn3 xe3 tk3 hp3 => (s_one (s_drop (pd_callR (cl_exact T) tk3 hr (by decide) (by rfl) (pa_consD (pd_var 0) (pa_consD pd_int pa_nilD))))))
    (fun a oe C d pn hD hz hf => (s_cons (s_set 2 sc__law_refused.nd (pd_or (pd_isX hz hf (T.xc C hD) (by rfl) T.n_isinstance (pa_consD (pd_var 1) (pa_consD (pd_glob (v := .ref cs.c_BadExact) (d := .cls cs.c_BadExact) (by rfl) ⟨_, T.g_BadExact, rfl⟩ (fun _ _ => rfl)) pa_nilD))) (pd_or (pd_isX hz hf (T.xc C hD) (by rfl) T.n_isinstance (pa_consD (pd_var 1) (pa_consD (pd_glob (v := .ref cs.c_Unfit) (d := .cls cs.c_Unfit) (by rfl) ⟨_, T.g_Unfit, rfl⟩ (fun _ _ => rfl)) pa_nilD))) (pd_one (pd_isX hz hf (T.xc C hD) (by rfl) T.n_isinstance (pa_consD (pd_var 1) (pa_consD (pd_glob (v := .ref cs.c_NoAnswer) (d := .cls cs.c_NoAnswer) (by rfl) ⟨_, T.g_NoAnswer, rfl⟩ (fun _ _ => rfl)) pa_nilD)))))))
    (s_one (s_ret (pd_and (pd_isX hz hf (T.xc C hD) (by rfl) T.n_isinstance (pa_consD (pd_var 1) (pa_consD (pd_glob (v := .ref cs.c_Refused) (d := .cls cs.c_Refused) (by rfl) ⟨_, T.g_Refused, rfl⟩ (fun _ _ => rfl)) pa_nilD))) (pd_and (pd_isX hz hf (T.xc C hD) (by rfl) T.n_isinstance (pa_consD (pd_var 1) (pa_consD (pd_type (by rfl) T.n_ValueError bt_ValueError) pa_nilD))) (pd_one (pd_not (pd_var 2))))))))))
    (s_one (s_ret pd_bl))))
theorem cl__law_refused (T : Tx P w K mg base cs) : ClR P w K mg base "_law_refused" 4 (m__law_refused K cs) := by
  obtain ⟨a, fd, F, hm⟩ := T.F__law_refused
  exact cl_of (ok__law_refused T F) hm F.kp (binds_all F (fun kV doc pm an cdv ct us hl => match us, hl with | [_], _ => rfl))
noncomputable def b__law_refused_by_base (K : PySem.W.Frag) (cs : Cs) : FD.Env → SOut :=
  (sSeq (sTryAs K cs.all (.ref cs.c_HouseError) 1 (sDrop (eCallR (m_exact K cs) (aCons (eVar 0) (aCons (eC (.int 0)) aNil))))
    (fun a d C => (sRet (eB (gIsX K C a d) (aCons (eVar 1) (aCons (eC (.cls cs.c_ZeroDenominator)) aNil))))))
    (sRet (eC (.bl false))))
theorem sc__law_refused_by_base : FnScope ["_law_n", "e"] ["_law_n"] (defScope s__law_refused_by_base) := ⟨rfl, rfl, rfl, by decide +kernel, rfl, by decide +kernel, by decide +kernel⟩
noncomputable def m__law_refused_by_base (K : PySem.W.Frag) (cs : Cs) : List Dt → Out Dt := argN 1 (runD 2 (b__law_refused_by_base K cs))
theorem ok__law_refused_by_base (T : Tx P w K mg base cs) {a : Addr} {fd : FuncData} (F : FunD K "_law_refused_by_base" "_law_refused_by_base" (defArgs s__law_refused_by_base) (defBody s__law_refused_by_base) (defScope s__law_refused_by_base) [] [] a fd) : FnOk P w K mg base (L2.CX P w) 4 a fd ["_law_n"] (spD K 1 (runD 2 (b__law_refused_by_base K cs))) :=
  def_okD F sc__law_refused_by_base (fun cdv A outer s H E hr =>
    (s_cons (s_tryAs 1 cs.all (by rfl) (by rfl) sc__law_refused_by_base.nd ⟨by rfl, by decide, .inl T.g_HouseError⟩ (takes_of (by rfl) (by rfl) (by rfl) (by rfl)) (fun W3 pn3 xe3 tk3 hp3 => (s_one (s_drop (pd_callR (cl_exact T) tk3 hr (by decide) (by rfl) (pa_consD (pd_var 0) (pa_consD pd_int pa_nilD))))))
    (fun a oe C d pn hD hz hf => (s_one (s_ret (pd_isX hz hf (T.xc C hD) (by rfl) T.n_isinstance (pa_consD (pd_var 1) (pa_consD (pd_glob (v := .ref cs.c_ZeroDenominator) (d := .cls cs.c_ZeroDenominator) (by rfl) ⟨_, T.g_ZeroDenominator, rfl⟩ (fun _ _ => rfl)) pa_nilD)))))))
    (s_one (s_ret pd_bl))))
theorem cl__law_refused_by_base (T : Tx P w K mg base cs) : ClR P w K mg base "_law_refused_by_base" 4 (m__law_refused_by_base K cs) := by
  obtain ⟨a, fd, F, hm⟩ := T.F__law_refused_by_base
  exact cl_of (ok__law_refused_by_base T F) hm F.kp (binds_all F (fun kV doc pm an cdv ct us hl => match us, hl with | [_], _ => rfl))
noncomputable def b_sum_of (K : PySem.W.Frag) (cs : Cs) : FD.Env → SOut :=
  (sSeq (sSet 1 (eTup (aCons (eC (.int 0)) (aCons (eC (.int 1)) aNil))) [])
    (sSeq (sFor (uTup (uCons (uName 2) (uCons (uName 3) uNil))) (oSeq (eVar 0)) [0]
    (sSet 1 (eCallR (m_exact K cs) (aCons (e2 (e2 (e2 (eVar 1) (eC (.int 0)) gIx) (eVar 3) (gI mulB (· * ·))) (e2 (eVar 2) (e2 (eVar 1) (eC (.int 1)) gIx) (gI mulB (· * ·))) gAdd) (aCons (e2 (e2 (eVar 1) (eC (.int 1)) gIx) (eVar 3) (gI mulB (· * ·))) aNil))) []))
    (sRet (eVar 1))))
theorem sc_sum_of : FnScope ["numbers", "total", "n", "d"] ["numbers"] (defScope s_sum_of) := ⟨rfl, rfl, rfl, by decide +kernel, rfl, by decide +kernel, by decide +kernel⟩
noncomputable def m_sum_of (K : PySem.W.Frag) (cs : Cs) : List Dt → Out Dt := argS 0 (runD 4 (b_sum_of K cs))
theorem cl_sum_of (T : Tx P w K mg base cs) : ClR P w K mg base "sum_of" 4 (m_sum_of K cs) := by
  obtain ⟨a, fd, F, hm⟩ := T.F_sum_of
  exact cl_starD (ps := []) F sc_sum_of hm (fun kV doc pm an cdv ct us rest hl => match us, hl, rest with | [], _, [] => rfl | [], _, _ :: _ => rfl) (fun cdv A outer s H E hr =>
    (s_cons (s_set 1 sc_sum_of.nd (pd_tup (pa_consD pd_int (pa_consD pd_int pa_nilD))))
    (s_cons (s_for (passes_of (by rfl)) (by rfl) (pi_seqD (pd_var 0)) (g_tup (by rfl) (gs_cons (g_name 2 sc_sum_of.nd) (gs_cons (g_name 3 sc_sum_of.nd) gs_nil)) (ulen_cons (ulen_cons ulen_nil)))
    (s_one (s_set 1 sc_sum_of.nd (pd_callR (cl_exact T) (takes_of (by rfl) (by rfl) (by rfl) (by rfl)) hr (by decide) (by rfl) (pa_consD (pd_add (pd_mul (pd_ixv 1 pd_int) (pd_var 3)) (pd_mul (pd_var 2) (pd_ixv 1 pd_int))) (pa_consD (pd_mul (pd_ixv 1 pd_int) (pd_var 3)) pa_nilD))))))
    (s_one (s_ret (pd_var 1))))))
noncomputable def b_difference (K : PySem.W.Frag) (cs : Cs) : FD.Env → SOut :=
  (sRet (eCallR (m_exact K cs) (aCons (e2 (e2 (e2 (eVar 0) (eC (.int 0)) gIx) (e2 (eVar 1) (eC (.int 1)) gIx) (gI mulB (· * ·))) (e2 (e2 (eVar 1) (eC (.int 0)) gIx) (e2 (eVar 0) (eC (.int 1)) gIx) (gI mulB (· * ·))) (gI0 (· - ·))) (aCons (e2 (e2 (eVar 0) (eC (.int 1)) gIx) (e2 (eVar 1) (eC (.int 1)) gIx) (gI mulB (· * ·))) aNil))))
theorem sc_difference : FnScope ["a", "b"] ["a", "b"] (defScope s_difference) := ⟨rfl, rfl, rfl, by decide +kernel, rfl, by decide +kernel, by decide +kernel⟩
noncomputable def m_difference (K : PySem.W.Frag) (cs : Cs) : List Dt → Out Dt := argN 2 (runD 2 (b_difference K cs))
theorem ok_difference (T : Tx P w K mg base cs) {a : Addr} {fd : FuncData} (F : FunD K "difference" "difference" (defArgs s_difference) (defBody s_difference) (defScope s_difference) [] [] a fd) : FnOk P w K mg base (L2.CX P w) 4 a fd ["a", "b"] (spD K 2 (runD 2 (b_difference K cs))) :=
  def_okD F sc_difference (fun cdv A outer s H E hr =>
    (s_one (s_ret (pd_callR (cl_exact T) (takes_of (by rfl) (by rfl) (by rfl) (by rfl)) hr (by decide) (by rfl) (pa_consD (pd_sub (pd_mul (pd_ixv 0 pd_int) (pd_ixv 1 pd_int)) (pd_mul (pd_ixv 1 pd_int) (pd_ixv 0 pd_int))) (pa_consD (pd_mul (pd_ixv 0 pd_int) (pd_ixv 1 pd_int)) pa_nilD))))))
theorem cl_difference (T : Tx P w K mg base cs) : ClR P w K mg base "difference" 4 (m_difference K cs) := by
  obtain ⟨a, fd, F, hm⟩ := T.F_difference
  exact cl_of (ok_difference T F) hm F.kp (binds_all F (fun kV doc pm an cdv ct us hl => match us, hl with | [_, _], _ => rfl))
noncomputable def b_times (K : PySem.W.Frag) (cs : Cs) : FD.Env → SOut :=
  (sRet (eCallR (m_exact K cs) (aCons (e2 (e2 (eVar 0) (eC (.int 0)) gIx) (eVar 1) (gI mulB (· * ·))) (aCons (e2 (eVar 0) (eC (.int 1)) gIx) aNil))))
theorem sc_times : FnScope ["a", "k"] ["a", "k"] (defScope s_times) := ⟨rfl, rfl, rfl, by decide +kernel, rfl, by decide +kernel, by decide +kernel⟩
noncomputable def m_times (K : PySem.W.Frag) (cs : Cs) : List Dt → Out Dt := argN 2 (runD 2 (b_times K cs))
theorem ok_times (T : Tx P w K mg base cs) {a : Addr} {fd : FuncData} (F : FunD K "times" "times" (defArgs s_times) (defBody s_times) (defScope s_times) [] [] a fd) : FnOk P w K mg base (L2.CX P w) 4 a fd ["a", "k"] (spD K 2 (runD 2 (b_times K cs))) :=
  def_okD F sc_times (fun cdv A outer s H E hr =>
    (s_one (s_ret (pd_callR (cl_exact T) (takes_of (by rfl) (by rfl) (by rfl) (by rfl)) hr (by decide) (by rfl) (pa_consD (pd_mul (pd_ixv 0 pd_int) (pd_var 1)) (pa_consD (pd_ixv 0 pd_int) pa_nilD))))))
theorem cl_times (T : Tx P w K mg base cs) : ClR P w K mg base "times" 4 (m_times K cs) := by
  obtain ⟨a, fd, F, hm⟩ := T.F_times
  exact cl_of (ok_times T F) hm F.kp (binds_all F (fun kV doc pm an cdv ct us hl => match us, hl with | [_, _], _ => rfl))
noncomputable def b__law_sums (K : PySem.W.Frag) (cs : Cs) : FD.Env → SOut :=
  (sSeq (sSet 4 (e2 (e2 (eVar 0) (eC (.int 1)) gIx) (e2 (eVar 1) (eC (.int 1)) gIx) (gI mulB (· * ·))) [])
    (sSeq (sIf (tOrD (tNotD (t1 (eCallR (m__law_right K cs) (aCons (eCallR (m_sum_of K cs) aNil) (aCons (eC (.int 0)) (aCons (eC (.int 1)) aNil)))) truD)) (tNotD (t1 (eCallR (m__law_right K cs) (aCons (eCallR (m_sum_of K cs) (aCons (eVar 0) aNil)) (aCons (e2 (eVar 0) (eC (.int 0)) gIx) (aCons (e2 (eVar 0) (eC (.int 1)) gIx) aNil)))) truD))) (sRet (eC (.bl false))) sNext)
    (sSeq (sIf (tNotD (t1 (eCallR (m__law_right K cs) (aCons (eCallR (m_sum_of K cs) (aCons (eVar 0) (aCons (eVar 1) aNil))) (aCons (e2 (e2 (e2 (eVar 0) (eC (.int 0)) gIx) (e2 (eVar 1) (eC (.int 1)) gIx) (gI mulB (· * ·))) (e2 (e2 (eVar 1) (eC (.int 0)) gIx) (e2 (eVar 0) (eC (.int 1)) gIx) (gI mulB (· * ·))) gAdd) (aCons (eVar 4) aNil)))) truD)) (sRet (eC (.bl false))) sNext)
    (sSeq (sIf (tNotD (t1 (eCallR (m__law_right K cs) (aCons (eCallR (m_difference K cs) (aCons (eVar 0) (aCons (eVar 1) aNil))) (aCons (e2 (e2 (e2 (eVar 0) (eC (.int 0)) gIx) (e2 (eVar 1) (eC (.int 1)) gIx) (gI mulB (· * ·))) (e2 (e2 (eVar 1) (eC (.int 0)) gIx) (e2 (eVar 0) (eC (.int 1)) gIx) (gI mulB (· * ·))) (gI0 (· - ·))) (aCons (eVar 4) aNil)))) truD)) (sRet (eC (.bl false))) sNext)
    (sSeq (sIf (tOrD (tNotD (t1 (eCallR (m__law_right K cs) (aCons (eCallR (m_difference K cs) (aCons (eVar 1) (aCons (eVar 0) aNil))) (aCons (e2 (e2 (e2 (eVar 1) (eC (.int 0)) gIx) (e2 (eVar 0) (eC (.int 1)) gIx) (gI mulB (· * ·))) (e2 (e2 (eVar 0) (eC (.int 0)) gIx) (e2 (eVar 1) (eC (.int 1)) gIx) (gI mulB (· * ·))) (gI0 (· - ·))) (aCons (eVar 4) aNil)))) truD)) (tNotD (t1 (eCallR (m__law_right K cs) (aCons (eCallR (m_difference K cs) (aCons (eVar 2) (aCons (eVar 2) aNil))) (aCons (eC (.int 0)) (aCons (eC (.int 1)) aNil)))) truD))) (sRet (eC (.bl false))) sNext)
    (sSeq (sIf (tOrD (tNotD (t1 (eCallR (m__law_right K cs) (aCons (eCallR (m_times K cs) (aCons (eVar 0) (aCons (eVar 3) aNil))) (aCons (e2 (e2 (eVar 0) (eC (.int 0)) gIx) (eVar 3) (gI mulB (· * ·))) (aCons (e2 (eVar 0) (eC (.int 1)) gIx) aNil)))) truD)) (tNotD (t1 (eCallR (m__law_right K cs) (aCons (eCallR (m_times K cs) (aCons (eVar 1) (aCons (eC (.int 0)) aNil))) (aCons (eC (.int 0)) (aCons (eC (.int 1)) aNil)))) truD))) (sRet (eC (.bl false))) sNext)
    (sSeq (sIf (tOrD (tNotD (t1 (eCallR (m__law_right K cs) (aCons (eCallR (m_times K cs) (aCons (eVar 2) (aCons (e1 (eC (.int 1)) gNeg) aNil))) (aCons (e1 (e2 (eVar 2) (eC (.int 0)) gIx) gNeg) (aCons (e2 (eVar 2) (eC (.int 1)) gIx) aNil)))) truD)) (tNotD (t1 (eCallR (m__law_right K cs) (aCons (eCallR (m_times K cs) (aCons (eVar 1) (aCons (eC (.int 1)) aNil))) (aCons (e2 (eVar 1) (eC (.int 0)) gIx) (aCons (e2 (eVar 1) (eC (.int 1)) gIx) aNil)))) truD))) (sRet (eC (.bl false))) sNext)
    (sSeq (sSet 5 (e2 (e2 (e2 (eVar 0) (eC (.int 0)) gIx) (e2 (eVar 1) (eC (.int 1)) gIx) (gI mulB (· * ·))) (e2 (eVar 2) (eC (.int 1)) gIx) (gI mulB (· * ·))) [])
    (sSeq (sSet 6 (e2 (e2 (e2 (eVar 1) (eC (.int 0)) gIx) (e2 (eVar 0) (eC (.int 1)) gIx) (gI mulB (· * ·))) (e2 (eVar 2) (eC (.int 1)) gIx) (gI mulB (· * ·))) [])
    (sSeq (sSet 7 (e2 (e2 (e2 (eVar 2) (eC (.int 0)) gIx) (e2 (eVar 0) (eC (.int 1)) gIx) (gI mulB (· * ·))) (e2 (eVar 1) (eC (.int 1)) gIx) (gI mulB (· * ·))) [])
    (sSeq (sIf (tNotD (t1 (eCallR (m__law_right K cs) (aCons (eCallR (m_sum_of K cs) (aCons (eVar 0) (aCons (eVar 1) (aCons (eVar 2) aNil)))) (aCons (e2 (e2 (eVar 5) (eVar 6) gAdd) (eVar 7) gAdd) (aCons (e2 (eVar 4) (e2 (eVar 2) (eC (.int 1)) gIx) (gI mulB (· * ·))) aNil)))) truD)) (sRet (eC (.bl false))) sNext)
    (sRet (eCallR (m__law_right K cs) (aCons (eCallR (m_sum_of K cs) (aCons (eVar 2) (aCons (eVar 1) (aCons (eVar 0) (aCons (eVar 1) (aCons (eVar 2) (aCons (eVar 1) (aCons (eVar 0) aNil)))))))) (aCons (e2 (e2 (e2 (eC (.int 2)) (eVar 5) (gI mulB (· * ·))) (e2 (eC (.int 3)) (eVar 6) (gI mulB (· * ·))) gAdd) (e2 (eC (.int 2)) (eVar 7) (gI mulB (· * ·))) gAdd) (aCons (e2 (eVar 4) (e2 (eVar 2) (eC (.int 1)) gIx) (gI mulB (· * ·))) aNil))))))))))))))))
theorem sc__law_sums : FnScope ["_law_a", "_law_b", "_law_c", "_law_k", "_law_d", "_law_left", "_law_middle", "_law_right_here"] ["_law_a", "_law_b", "_law_c", "_law_k"] (defScope s__law_sums) := ⟨rfl, rfl, rfl, by decide +kernel, rfl, by decide +kernel, by decide +kernel⟩
noncomputable def m__law_sums (K : PySem.W.Frag) (cs : Cs) : List Dt → Out Dt := argN 4 (runD 8 (b__law_sums K cs))
theorem ok__law_sums (T : Tx P w K mg base cs) {a : Addr} {fd : FuncData} (F : FunD K "_law_sums" "_law_sums" (defArgs s__law_sums) (defBody s__law_sums) (defScope s__law_sums) [] [] a fd) : FnOk P w K mg base (L2.CX P w) 5 a fd ["_law_a", "_law_b", "_law_c", "_law_k"] (spD K 4 (runD 8 (b__law_sums K cs))) :=
  def_okD F sc__law_sums (fun cdv A outer s H E hr =>
    (s_cons (s_set 4 sc__law_sums.nd (pd_mul (pd_ixv 0 pd_int) (pd_ixv 1 pd_int)))
    (s_cons (s_if (ptw (pw_orD (pt_notD (pt_v (pd_callR (cl__law_right T) (takes_of (by rfl) (by rfl) (by rfl) (by rfl)) hr (by decide) (by rfl) (pa_consD (pd_callR0 (cl_sum_of T) (takes_of (by rfl) (by rfl) (by rfl) (by rfl)) hr (by decide) (by rfl)) (pa_consD pd_int (pa_consD pd_int pa_nilD)))))) (pw_or1D (pt_notD (pt_v (pd_callR (cl__law_right T) (takes_of (by rfl) (by rfl) (by rfl) (by rfl)) hr (by decide) (by rfl) (pa_consD (pd_callR (cl_sum_of T) (takes_of (by rfl) (by rfl) (by rfl) (by rfl)) hr (by decide) (by rfl) (pa_consD (pd_var 0) pa_nilD)) (pa_consD (pd_ixv 0 pd_int) (pa_consD (pd_ixv 0 pd_int) pa_nilD))))))))) (s_one (s_ret pd_bl)) s_nil)
    (s_cons (s_if (pt_notD (pt_v (pd_callR (cl__law_right T) (takes_of (by rfl) (by rfl) (by rfl) (by rfl)) hr (by decide) (by rfl) (pa_consD (pd_callR (cl_sum_of T) (takes_of (by rfl) (by rfl) (by rfl) (by rfl)) hr (by decide) (by rfl) (pa_consD (pd_var 0) (pa_consD (pd_var 1) pa_nilD))) (pa_consD (pd_add (pd_mul (pd_ixv 0 pd_int) (pd_ixv 1 pd_int)) (pd_mul (pd_ixv 1 pd_int) (pd_ixv 0 pd_int))) (pa_consD (pd_var 4) pa_nilD)))))) (s_one (s_ret pd_bl)) s_nil)
    (s_cons (s_if (pt_notD (pt_v (pd_callR (cl__law_right T) (takes_of (by rfl) (by rfl) (by rfl) (by rfl)) hr (by decide) (by rfl) (pa_consD (pd_callR (cl_difference T) (takes_of (by rfl) (by rfl) (by rfl) (by rfl)) hr (by decide) (by rfl) (pa_consD (pd_var 0) (pa_consD (pd_var 1) pa_nilD))) (pa_consD (pd_sub (pd_mul (pd_ixv 0 pd_int) (pd_ixv 1 pd_int)) (pd_mul (pd_ixv 1 pd_int) (pd_ixv 0 pd_int))) (pa_consD (pd_var 4) pa_nilD)))))) (s_one (s_ret pd_bl)) s_nil)
    (s_cons (s_if (ptw (pw_orD (pt_notD (pt_v (pd_callR (cl__law_right T) (takes_of (by rfl) (by rfl) (by rfl) (by rfl)) hr (by decide) (by rfl) (pa_consD (pd_callR (cl_difference T) (takes_of (by rfl) (by rfl) (by rfl) (by rfl)) hr (by decide) (by rfl) (pa_consD (pd_var 1) (pa_consD (pd_var 0) pa_nilD))) (pa_consD (pd_sub (pd_mul (pd_ixv 1 pd_int) (pd_ixv 0 pd_int)) (pd_mul (pd_ixv 0 pd_int) (pd_ixv 1 pd_int))) (pa_consD (pd_var 4) pa_nilD)))))) (pw_or1D (pt_notD (pt_v (pd_callR (cl__law_right T) (takes_of (by rfl) (by rfl) (by rfl) (by rfl)) hr (by decide) (by rfl) (pa_consD (pd_callR (cl_difference T) (takes_of (by rfl) (by rfl) (by rfl) (by rfl)) hr (by decide) (by rfl) (pa_consD (pd_var 2) (pa_consD (pd_var 2) pa_nilD))) (pa_consD pd_int (pa_consD pd_int pa_nilD))))))))) (s_one (s_ret pd_bl)) s_nil)
    (s_cons (s_if (ptw (pw_orD (pt_notD (pt_v (pd_callR (cl__law_right T) (takes_of (by rfl) (by rfl) (by rfl) (by rfl)) hr (by decide) (by rfl) (pa_consD (pd_callR (cl_times T) (takes_of (by rfl) (by rfl) (by rfl) (by rfl)) hr (by decide) (by rfl) (pa_consD (pd_var 0) (pa_consD (pd_var 3) pa_nilD))) (pa_consD (pd_mul (pd_ixv 0 pd_int) (pd_var 3)) (pa_consD (pd_ixv 0 pd_int) pa_nilD)))))) (pw_or1D (pt_notD (pt_v (pd_callR (cl__law_right T) (takes_of (by rfl) (by rfl) (by rfl) (by rfl)) hr (by decide) (by rfl) (pa_consD (pd_callR (cl_times T) (takes_of (by rfl) (by rfl) (by rfl) (by rfl)) hr (by decide) (by rfl) (pa_consD (pd_var 1) (pa_consD pd_int pa_nilD))) (pa_consD pd_int (pa_consD pd_int pa_nilD))))))))) (s_one (s_ret pd_bl)) s_nil)
    (s_cons (s_if (ptw (pw_orD (pt_notD (pt_v (pd_callR (cl__law_right T) (takes_of (by rfl) (by rfl) (by rfl) (by rfl)) hr (by decide) (by rfl) (pa_consD (pd_callR (cl_times T) (takes_of (by rfl) (by rfl) (by rfl) (by rfl)) hr (by decide) (by rfl) (pa_consD (pd_var 2) (pa_consD (pd_neg pd_int) pa_nilD))) (pa_consD (pd_neg (pd_ixv 2 pd_int)) (pa_consD (pd_ixv 2 pd_int) pa_nilD)))))) (pw_or1D (pt_notD (pt_v (pd_callR (cl__law_right T) (takes_of (by rfl) (by rfl) (by rfl) (by rfl)) hr (by decide) (by rfl) (pa_consD (pd_callR (cl_times T) (takes_of (by rfl) (by rfl) (by rfl) (by rfl)) hr (by decide) (by rfl) (pa_consD (pd_var 1) (pa_consD pd_int pa_nilD))) (pa_consD (pd_ixv 1 pd_int) (pa_consD (pd_ixv 1 pd_int) pa_nilD))))))))) (s_one (s_ret pd_bl)) s_nil)
    (s_cons (s_set 5 sc__law_sums.nd (pd_mul (pd_mul (pd_ixv 0 pd_int) (pd_ixv 1 pd_int)) (pd_ixv 2 pd_int)))
    (s_cons (s_set 6 sc__law_sums.nd (pd_mul (pd_mul (pd_ixv 1 pd_int) (pd_ixv 0 pd_int)) (pd_ixv 2 pd_int)))
    (s_cons (s_set 7 sc__law_sums.nd (pd_mul (pd_mul (pd_ixv 2 pd_int) (pd_ixv 0 pd_int)) (pd_ixv 1 pd_int)))
    (s_cons (s_if (pt_notD (pt_v (pd_callR (cl__law_right T) (takes_of (by rfl) (by rfl) (by rfl) (by rfl)) hr (by decide) (by rfl) (pa_consD (pd_callR (cl_sum_of T) (takes_of (by rfl) (by rfl) (by rfl) (by rfl)) hr (by decide) (by rfl) (pa_consD (pd_var 0) (pa_consD (pd_var 1) (pa_consD (pd_var 2) pa_nilD)))) (pa_consD (pd_add (pd_add (pd_var 5) (pd_var 6)) (pd_var 7)) (pa_consD (pd_mul (pd_var 4) (pd_ixv 2 pd_int)) pa_nilD)))))) (s_one (s_ret pd_bl)) s_nil)
    (s_one (s_ret (pd_callR (cl__law_right T) (takes_of (by rfl) (by rfl) (by rfl) (by rfl)) hr (by decide) (by rfl) (pa_consD (pd_callR (cl_sum_of T) (takes_of (by rfl) (by rfl) (by rfl) (by rfl)) hr (by decide) (by rfl) (pa_consD (pd_var 2) (pa_consD (pd_var 1) (pa_consD (pd_var 0) (pa_consD (pd_var 1) (pa_consD (pd_var 2) (pa_consD (pd_var 1) (pa_consD (pd_var 0) pa_nilD)))))))) (pa_consD (pd_add (pd_add (pd_mul pd_int (pd_var 5)) (pd_mul pd_int (pd_var 6))) (pd_mul pd_int (pd_var 7))) (pa_consD (pd_mul (pd_var 4) (pd_ixv 2 pd_int)) pa_nilD))))))))))))))))))
theorem cl__law_sums (T : Tx P w K mg base cs) : ClR P w K mg base "_law_sums" 5 (m__law_sums K cs) := by
  obtain ⟨a, fd, F, hm⟩ := T.F__law_sums
  exact cl_of (ok__law_sums T F) hm F.kp (binds_all F (fun kV doc pm an cdv ct us hl => match us, hl with | [_, _, _, _], _ => rfl))
noncomputable def b_compared (K : PySem.W.Frag) (cs : Cs) : FD.Env → SOut :=
  (sSeq (sSet 2 (e2 (e2 (eVar 0) (eC (.int 0)) gIx) (e2 (eVar 1) (eC (.int 1)) gIx) (gI mulB (· * ·))) [])
    (sSeq (sSet 3 (e2 (e2 (eVar 1) (eC (.int 0)) gIx) (e2 (eVar 0) (eC (.int 1)) gIx) (gI mulB (· * ·))) [])
    (sSeq (sIf (t2 (eVar 2) (eVar 3) (cI fun i j => decide (i < j))) (sRet (e1 (eC (.int 1)) gNeg)) sNext)
    (sSeq (sIf (t2 (eVar 2) (eVar 3) (cI fun i j => decide (j < i))) (sRet (eC (.int 1))) sNext)
    (sRet (eC (.int 0)))))))
theorem sc_compared : FnScope ["a", "b", "left", "right"] ["a", "b"] (defScope s_compared) := ⟨rfl, rfl, rfl, by decide +kernel, rfl, by decide +kernel, by decide +kernel⟩
noncomputable def m_compared (K : PySem.W.Frag) (cs : Cs) : List Dt → Out Dt := argN 2 (runD 4 (b_compared K cs))
theorem ok_compared (T : Tx P w K mg base cs) {a : Addr} {fd : FuncData} (F : FunD K "compared" "compared" (defArgs s_compared) (defBody s_compared) (defScope s_compared) [] [] a fd) : FnOk P w K mg base (L2.CX P w) 1 a fd ["a", "b"] (spD K 2 (runD 4 (b_compared K cs))) :=
  def_okD F sc_compared (fun cdv A outer s H E hr =>
    (s_cons (s_set 2 sc_compared.nd (pd_mul (pd_ixv 0 pd_int) (pd_ixv 1 pd_int)))
    (s_cons (s_set 3 sc_compared.nd (pd_mul (pd_ixv 1 pd_int) (pd_ixv 0 pd_int)))
    (s_cons (s_if (pt_c cm_lt (pd_var 2) (pd_var 3)) (s_one (s_ret (pd_neg pd_int))) s_nil)
    (s_cons (s_if (pt_c cm_gt (pd_var 2) (pd_var 3)) (s_one (s_ret pd_int)) s_nil)
    (s_one (s_ret pd_int)))))))
theorem cl_compared (T : Tx P w K mg base cs) : ClR P w K mg base "compared" 1 (m_compared K cs) := by
  obtain ⟨a, fd, F, hm⟩ := T.F_compared
  exact cl_of (ok_compared T F) hm F.kp (binds_all F (fun kV doc pm an cdv ct us hl => match us, hl with | [_, _], _ => rfl))
noncomputable def b_greatest_of (K : PySem.W.Frag) (cs : Cs) : FD.Env → SOut :=
  (sSeq (sSet 2 (eVar 0) [0])
    (sSeq (sFor (uName 3) (oSeq (eVar 1)) [1]
    (sIf (t2 (eCallR (m_compared K cs) (aCons (eVar 3) (aCons (eVar 2) aNil))) (eC (.int 0)) (cI fun i j => decide (j < i))) (sSet 2 (eVar 3) [3]) sNext))
    (sRet (eVar 2))))
theorem sc_greatest_of : FnScope ["first", "rest", "best", "number"] ["first", "rest"] (defScope s_greatest_of) := ⟨rfl, rfl, rfl, by decide +kernel, rfl, by decide +kernel, by decide +kernel⟩
noncomputable def m_greatest_of (K : PySem.W.Frag) (cs : Cs) : List Dt → Out Dt := argS 1 (runD 4 (b_greatest_of K cs))
theorem cl_greatest_of (T : Tx P w K mg base cs) : ClR P w K mg base "greatest_of" 2 (m_greatest_of K cs) := by
  obtain ⟨a, fd, F, hm⟩ := T.F_greatest_of
  exact cl_starD (ps := ["first"]) F sc_greatest_of hm (fun kV doc pm an cdv ct us rest hl => match us, hl, rest with | [_], _, [] => rfl | [_], _, _ :: _ => rfl) (fun cdv A outer s H E hr =>
    (s_cons (s_set 2 sc_greatest_of.nd (pd_var 0))
    (s_cons (s_for (passes_of (by rfl)) (by rfl) (pi_seqD (pd_var 1)) (g_name 3 sc_greatest_of.nd)
    (s_one (s_if (pt_c cm_gt (pd_callR (cl_compared T) (takes_of (by rfl) (by rfl) (by rfl) (by rfl)) hr (by decide) (by rfl) (pa_consD (pd_var 3) (pa_consD (pd_var 2) pa_nilD))) pd_int) (s_one (s_set 2 sc_greatest_of.nd (pd_var 3))) s_nil)))
    (s_one (s_ret (pd_var 2))))))
noncomputable def b_least_of (K : PySem.W.Frag) (cs : Cs) : FD.Env → SOut :=
  (sSeq (sSet 2 (eVar 0) [0])
    (sSeq (sFor (uName 3) (oSeq (eVar 1)) [1]
    (sIf (t2 (eCallR (m_compared K cs) (aCons (eVar 3) (aCons (eVar 2) aNil))) (eC (.int 0)) (cI fun i j => decide (i < j))) (sSet 2 (eVar 3) [3]) sNext))
    (sRet (eVar 2))))
theorem sc_least_of : FnScope ["first", "rest", "best", "number"] ["first", "rest"] (defScope s_least_of) := ⟨rfl, rfl, rfl, by decide +kernel, rfl, by decide +kernel, by decide +kernel⟩
noncomputable def m_least_of (K : PySem.W.Frag) (cs : Cs) : List Dt → Out Dt := argS 1 (runD 4 (b_least_of K cs))
theorem cl_least_of (T : Tx P w K mg base cs) : ClR P w K mg base "least_of" 2 (m_least_of K cs) := by
  obtain ⟨a, fd, F, hm⟩ := T.F_least_of
  exact cl_starD (ps := ["first"]) F sc_least_of hm (fun kV doc pm an cdv ct us rest hl => match us, hl, rest with | [_], _, [] => rfl | [_], _, _ :: _ => rfl) (fun cdv A outer s H E hr =>
    (s_cons (s_set 2 sc_least_of.nd (pd_var 0))
    (s_cons (s_for (passes_of (by rfl)) (by rfl) (pi_seqD (pd_var 1)) (g_name 3 sc_least_of.nd)
    (s_one (s_if (pt_c cm_lt (pd_callR (cl_compared T) (takes_of (by rfl) (by rfl) (by rfl) (by rfl)) hr (by decide) (by rfl) (pa_consD (pd_var 3) (pa_consD (pd_var 2) pa_nilD))) pd_int) (s_one (s_set 2 sc_least_of.nd (pd_var 3))) s_nil)))
    (s_one (s_ret (pd_var 2))))))
noncomputable def b__law_sign (K : PySem.W.Frag) (cs : Cs) : FD.Env → SOut :=
  (sSeq (sSet 2 (e2 (e2 (e2 (eVar 0) (eC (.int 0)) gIx) (e2 (eVar 1) (eC (.int 1)) gIx) (gI mulB (· * ·))) (e2 (e2 (eVar 1) (eC (.int 0)) gIx) (e2 (eVar 0) (eC (.int 1)) gIx) (gI mulB (· * ·))) (gI0 (· - ·))) [])
    (sRet (e2 (eB gInt (aCons (eT (t2 (eVar 2) (eC (.int 0)) (cI fun i j => decide (j < i)))) aNil)) (eB gInt (aCons (eT (t2 (eVar 2) (eC (.int 0)) (cI fun i j => decide (i < j)))) aNil)) (gI0 (· - ·)))))
theorem sc__law_sign : FnScope ["_law_a", "_law_b", "_law_cross"] ["_law_a", "_law_b"] (defScope s__law_sign) := ⟨rfl, rfl, rfl, by decide +kernel, rfl, by decide +kernel, by decide +kernel⟩
noncomputable def m__law_sign (K : PySem.W.Frag) (cs : Cs) : List Dt → Out Dt := argN 2 (runD 3 (b__law_sign K cs))
theorem ok__law_sign (T : Tx P w K mg base cs) {a : Addr} {fd : FuncData} (F : FunD K "_law_sign" "_law_sign" (defArgs s__law_sign) (defBody s__law_sign) (defScope s__law_sign) [] [] a fd) : FnOk P w K mg base (L2.CX P w) 1 a fd ["_law_a", "_law_b"] (spD K 2 (runD 3 (b__law_sign K cs))) :=
  def_okD F sc__law_sign (fun cdv A outer s H E hr =>
    (s_cons (s_set 2 sc__law_sign.nd (pd_sub (pd_mul (pd_ixv 0 pd_int) (pd_ixv 1 pd_int)) (pd_mul (pd_ixv 1 pd_int) (pd_ixv 0 pd_int))))
    (s_one (s_ret (pd_sub (pd_intc (by rfl) T.n_int (pa_consD (pd_c cm_gt (pd_var 2) pd_int) pa_nilD)) (pd_intc (by rfl) T.n_int (pa_consD (pd_c cm_lt (pd_var 2) pd_int) pa_nilD)))))))
theorem cl__law_sign (T : Tx P w K mg base cs) : ClR P w K mg base "_law_sign" 1 (m__law_sign K cs) := by
  obtain ⟨a, fd, F, hm⟩ := T.F__law_sign
  exact cl_of (ok__law_sign T F) hm F.kp (binds_all F (fun kV doc pm an cdv ct us hl => match us, hl with | [_, _], _ => rfl))
noncomputable def b__law_extreme (K : PySem.W.Frag) (cs : Cs) : FD.Env → SOut :=
  (sSeq (sSet 2 (e2 (eVar 0) (eC (.int 0)) gIx) [])
    (sSeq (sFor (uName 3) (oSeq (eVar 0)) [0]
    (sIf (t2 (eCallR (m__law_sign K cs) (aCons (eVar 3) (aCons (eVar 2) aNil))) (eVar 1) eqD) (sSet 2 (eVar 3) [3]) sNext))
    (sRet (eVar 2))))
theorem sc__law_extreme : FnScope ["_law_numbers", "_law_side", "_law_best", "_law_number"] ["_law_numbers", "_law_side"] (defScope s__law_extreme) := ⟨rfl, rfl, rfl, by decide +kernel, rfl, by decide +kernel, by decide +kernel⟩
noncomputable def m__law_extreme (K : PySem.W.Frag) (cs : Cs) : List Dt → Out Dt := argN 2 (runD 4 (b__law_extreme K cs))
theorem ok__law_extreme (T : Tx P w K mg base cs) {a : Addr} {fd : FuncData} (F : FunD K "_law_extreme" "_law_extreme" (defArgs s__law_extreme) (defBody s__law_extreme) (defScope s__law_extreme) [] [] a fd) : FnOk P w K mg base (L2.CX P w) 2 a fd ["_law_numbers", "_law_side"] (spD K 2 (runD 4 (b__law_extreme K cs))) :=
  def_okD F sc__law_extreme (fun cdv A outer s H E hr =>
    (s_cons (s_set 2 sc__law_extreme.nd (pd_ixv 0 pd_int))
    (s_cons (s_for (passes_of (by rfl)) (by rfl) (pi_seqD (pd_var 0)) (g_name 3 sc__law_extreme.nd)
    (s_one (s_if (pt_c (cm_eq (u64 hr)) (pd_callR (cl__law_sign T) (takes_of (by rfl) (by rfl) (by rfl) (by rfl)) hr (by decide) (by rfl) (pa_consD (pd_var 3) (pa_consD (pd_var 2) pa_nilD))) (pd_var 1)) (s_one (s_set 2 sc__law_extreme.nd (pd_var 3))) s_nil)))
    (s_one (s_ret (pd_var 2))))))
theorem cl__law_extreme (T : Tx P w K mg base cs) : ClR P w K mg base "_law_extreme" 2 (m__law_extreme K cs) := by
  obtain ⟨a, fd, F, hm⟩ := T.F__law_extreme
  exact cl_of (ok__law_extreme T F) hm F.kp (binds_all F (fun kV doc pm an cdv ct us hl => match us, hl with | [_, _], _ => rfl))
noncomputable def b__law_ordered (K : PySem.W.Frag) (cs : Cs) : FD.Env → SOut :=
  (sSeq (sFor (uName 3) (oSeq (eL (lLst (aCons (eVar 0) (aCons (eVar 1) (aCons (eVar 2) aNil)))))) [0, 1, 2]
    (sFor (uName 4) (oSeq (eL (lLst (aCons (eVar 0) (aCons (eVar 1) (aCons (eVar 2) aNil)))))) [0, 1, 2]
    (sSeq (sSet 5 (eCallR (m_compared K cs) (aCons (eVar 3) (aCons (eVar 4) aNil))) [3, 4])
    (sIf (tOrD (tNotD (t1 (eCallR (m__law_is_integer K cs) (aCons (eVar 5) aNil)) truD)) (t2 (eVar 5) (eCallR (m__law_sign K cs) (aCons (eVar 3) (aCons (eVar 4) aNil))) neD)) (sRet (eC (.bl false))) sNext))))
    (sSeq (sFor (uName 6) (oSeq (eL (lLst (aCons (eL (lLst (aCons (eVar 0) (aCons (eVar 1) (aCons (eVar 2) aNil))))) (aCons (eL (lLst (aCons (eVar 1) (aCons (eVar 2) (aCons (eVar 0) aNil))))) (aCons (eL (lLst (aCons (eVar 2) (aCons (eVar 0) (aCons (eVar 1) aNil))))) (aCons (eL (lLst (aCons (eVar 2) (aCons (eVar 1) (aCons (eVar 0) aNil))))) (aCons (eL (lLst (aCons (eVar 1) (aCons (eVar 0) (aCons (eVar 2) aNil))))) (aCons (eL (lLst (aCons (eVar 0) (aCons (eVar 2) (aCons (eVar 1) aNil))))) aNil))))))))) [0, 1, 2, 1, 2, 0, 2, 0, 1, 2, 1, 0, 1, 0, 2, 0, 2, 1]
    (sSeq (sSet 3 (e2 (eVar 6) (eC (.int 0)) gIx) [])
    (sSeq (sSet 4 (e2 (eVar 6) (eC (.int 1)) gIx) [])
    (sSeq (sSet 7 (e2 (eVar 6) (eC (.int 2)) gIx) [])
    (sSeq (sSetL 8 (lLst (aCons (eCallR (m_greatest_of K cs) (aCons (eVar 3) aNil)) (aCons (eCallR (m_greatest_of K cs) (aCons (eVar 3) (aCons (eVar 4) aNil))) (aCons (eCallR (m_greatest_of K cs) (aCons (eVar 3) (aCons (eVar 4) (aCons (eVar 7) aNil)))) aNil)))) [3, 3, 4, 3, 4, 7])
    (sSeq (sAppend 8 (eCallR (m_greatest_of K cs) (aCons (eVar 3) (aCons (eVar 4) (aCons (eVar 7) (aCons (eVar 3) aNil))))) [3, 4, 7, 3])
    (sSeq (sSetL 9 (lLst (aCons (eCallR (m_least_of K cs) (aCons (eVar 3) aNil)) (aCons (eCallR (m_least_of K cs) (aCons (eVar 3) (aCons (eVar 4) aNil))) (aCons (eCallR (m_least_of K cs) (aCons (eVar 3) (aCons (eVar 4) (aCons (eVar 7) aNil)))) aNil)))) [3, 3, 4, 3, 4, 7])
    (sSeq (sAppend 9 (eCallR (m_least_of K cs) (aCons (eVar 3) (aCons (eVar 4) (aCons (eVar 7) (aCons (eVar 3) aNil))))) [3, 4, 7, 3])
    (sFor (uName 10) (oRange (aCons (eC (.int 4)) aNil)) []
    (sSeq (sSet 11 (eCallR (m__law_extreme K cs) (aCons (eL (lCut (eVar 6) oNone (oInt (e2 (eVar 10) (eC (.int 1)) gAdd)))) (aCons (eC (.int 1)) aNil))) [6])
    (sSeq (sIf (tNotD (t1 (eCallR (m__law_right K cs) (aCons (e2 (eVar 8) (eVar 10) gIx) (aCons (e2 (eVar 11) (eC (.int 0)) gIx) (aCons (e2 (eVar 11) (eC (.int 1)) gIx) aNil)))) truD)) (sRet (eC (.bl false))) sNext)
    (sSeq (sSet 11 (eCallR (m__law_extreme K cs) (aCons (eL (lCut (eVar 6) oNone (oInt (e2 (eVar 10) (eC (.int 1)) gAdd)))) (aCons (e1 (eC (.int 1)) gNeg) aNil))) [6])
    (sIf (tNotD (t1 (eCallR (m__law_right K cs) (aCons (e2 (eVar 9) (eVar 10) gIx) (aCons (e2 (eVar 11) (eC (.int 0)) gIx) (aCons (e2 (eVar 11) (eC (.int 1)) gIx) aNil)))) truD)) (sRet (eC (.bl false))) sNext)))))))))))))
    (sRet (eC (.bl true)))))
theorem sc__law_ordered : FnScope ["_law_a", "_law_b", "_law_c", "_law_one", "_law_other", "_law_sign_here", "_law_row", "_law_third", "_law_high", "_law_low", "_law_k", "_law_due"] ["_law_a", "_law_b", "_law_c"] (defScope s__law_ordered) := ⟨rfl, rfl, rfl, by decide +kernel, rfl, by decide +kernel, by decide +kernel⟩
noncomputable def m__law_ordered (K : PySem.W.Frag) (cs : Cs) : List Dt → Out Dt := argN 3 (runD 12 (b__law_ordered K cs))
theorem ok__law_ordered (T : Tx P w K mg base cs) {a : Addr} {fd : FuncData} (F : FunD K "_law_ordered" "_law_ordered" (defArgs s__law_ordered) (defBody s__law_ordered) (defScope s__law_ordered) [] [] a fd) : FnOk P w K mg base (L2.CX P w) 3 a fd ["_law_a", "_law_b", "_law_c"] (spD K 3 (runD 12 (b__law_ordered K cs))) :=
  def_okD F sc__law_ordered (fun cdv A outer s H E hr =>
    (s_cons (s_for (passes_of (by rfl)) (by rfl) (pi_seqD (pd_l (pl_lst (pa_consD (pd_var 0) (pa_consD (pd_var 1) (pa_consD (pd_var 2) pa_nilD)))))) (g_name 3 sc__law_ordered.nd)
    (s_one (s_for (passes_of (by rfl)) (by rfl) (pi_seqD (pd_l (pl_lst (pa_consD (pd_var 0) (pa_consD (pd_var 1) (pa_consD (pd_var 2) pa_nilD)))))) (g_name 4 sc__law_ordered.nd)
    (s_cons (s_set 5 sc__law_ordered.nd (pd_callR (cl_compared T) (takes_of (by rfl) (by rfl) (by rfl) (by rfl)) hr (by decide) (by rfl) (pa_consD (pd_var 3) (pa_consD (pd_var 4) pa_nilD))))
    (s_one (s_if (ptw (pw_orD (pt_notD (pt_v (pd_callR (cl__law_is_integer T) (takes_of (by rfl) (by rfl) (by rfl) (by rfl)) hr (by decide) (by rfl) (pa_consD (pd_var 5) pa_nilD)))) (pw_or1D (pt_c (cm_ne (u64 hr)) (pd_var 5) (pd_callR (cl__law_sign T) (takes_of (by rfl) (by rfl) (by rfl) (by rfl)) hr (by decide) (by rfl) (pa_consD (pd_var 3) (pa_consD (pd_var 4) pa_nilD))))))) (s_one (s_ret pd_bl)) s_nil))))))
    (s_cons (s_for (passes_of (by rfl)) (by rfl) (pi_seqD (pd_l (pl_lst (pa_consD (pd_l (pl_lst (pa_consD (pd_var 0) (pa_consD (pd_var 1) (pa_consD (pd_var 2) pa_nilD))))) (pa_consD (pd_l (pl_lst (pa_consD (pd_var 1) (pa_consD (pd_var 2) (pa_consD (pd_var 0) pa_nilD))))) (pa_consD (pd_l (pl_lst (pa_consD (pd_var 2) (pa_consD (pd_var 0) (pa_consD (pd_var 1) pa_nilD))))) (pa_consD (pd_l (pl_lst (pa_consD (pd_var 2) (pa_consD (pd_var 1) (pa_consD (pd_var 0) pa_nilD))))) (pa_consD (pd_l (pl_lst (pa_consD (pd_var 1) (pa_consD (pd_var 0) (pa_consD (pd_var 2) pa_nilD))))) (pa_consD (pd_l (pl_lst (pa_consD (pd_var 0) (pa_consD (pd_var 2) (pa_consD (pd_var 1) pa_nilD))))) pa_nilD))))))))) (g_name 6 sc__law_ordered.nd)
    (s_cons (s_set 3 sc__law_ordered.nd (pd_ixv 6 pd_int))
    (s_cons (s_set 4 sc__law_ordered.nd (pd_ixv 6 pd_int))
    (s_cons (s_set 7 sc__law_ordered.nd (pd_ixv 6 pd_int))
    (s_cons (s_setL 8 sc__law_ordered.nd (pl_lst (pa_consD (pd_callR (cl_greatest_of T) (takes_of (by rfl) (by rfl) (by rfl) (by rfl)) hr (by decide) (by rfl) (pa_consD (pd_var 3) pa_nilD)) (pa_consD (pd_callR (cl_greatest_of T) (takes_of (by rfl) (by rfl) (by rfl) (by rfl)) hr (by decide) (by rfl) (pa_consD (pd_var 3) (pa_consD (pd_var 4) pa_nilD))) (pa_consD (pd_callR (cl_greatest_of T) (takes_of (by rfl) (by rfl) (by rfl) (by rfl)) hr (by decide) (by rfl) (pa_consD (pd_var 3) (pa_consD (pd_var 4) (pa_consD (pd_var 7) pa_nilD)))) pa_nilD)))))
    (s_cons (s_append 8 (pd_callR (cl_greatest_of T) (takes_of (by rfl) (by rfl) (by rfl) (by rfl)) hr (by decide) (by rfl) (pa_consD (pd_var 3) (pa_consD (pd_var 4) (pa_consD (pd_var 7) (pa_consD (pd_var 3) pa_nilD))))))
    (s_cons (s_setL 9 sc__law_ordered.nd (pl_lst (pa_consD (pd_callR (cl_least_of T) (takes_of (by rfl) (by rfl) (by rfl) (by rfl)) hr (by decide) (by rfl) (pa_consD (pd_var 3) pa_nilD)) (pa_consD (pd_callR (cl_least_of T) (takes_of (by rfl) (by rfl) (by rfl) (by rfl)) hr (by decide) (by rfl) (pa_consD (pd_var 3) (pa_consD (pd_var 4) pa_nilD))) (pa_consD (pd_callR (cl_least_of T) (takes_of (by rfl) (by rfl) (by rfl) (by rfl)) hr (by decide) (by rfl) (pa_consD (pd_var 3) (pa_consD (pd_var 4) (pa_consD (pd_var 7) pa_nilD)))) pa_nilD)))))
    (s_cons (s_append 9 (pd_callR (cl_least_of T) (takes_of (by rfl) (by rfl) (by rfl) (by rfl)) hr (by decide) (by rfl) (pa_consD (pd_var 3) (pa_consD (pd_var 4) (pa_consD (pd_var 7) (pa_consD (pd_var 3) pa_nilD))))))
    (s_one (s_for (passes_of (by rfl)) (by rfl) (pi_rng1D (by rfl) T.n_range pd_int) (g_name 10 sc__law_ordered.nd)
    (s_cons (s_set 11 sc__law_ordered.nd (pd_callR (cl__law_extreme T) (takes_of (by rfl) (by rfl) (by rfl) (by rfl)) hr (by decide) (by rfl) (pa_consD (pd_l (pl_cut (pd_var 6) po_noneD (po_someD (pd_add (pd_var 10) pd_int)))) (pa_consD pd_int pa_nilD))))
    (s_cons (s_if (pt_notD (pt_v (pd_callR (cl__law_right T) (takes_of (by rfl) (by rfl) (by rfl) (by rfl)) hr (by decide) (by rfl) (pa_consD (pd_ixv 8 (pd_var 10)) (pa_consD (pd_ixv 11 pd_int) (pa_consD (pd_ixv 11 pd_int) pa_nilD)))))) (s_one (s_ret pd_bl)) s_nil)
    (s_cons (s_set 11 sc__law_ordered.nd (pd_callR (cl__law_extreme T) (takes_of (by rfl) (by rfl) (by rfl) (by rfl)) hr (by decide) (by rfl) (pa_consD (pd_l (pl_cut (pd_var 6) po_noneD (po_someD (pd_add (pd_var 10) pd_int)))) (pa_consD (pd_neg pd_int) pa_nilD))))
    (s_one (s_if (pt_notD (pt_v (pd_callR (cl__law_right T) (takes_of (by rfl) (by rfl) (by rfl) (by rfl)) hr (by decide) (by rfl) (pa_consD (pd_ixv 9 (pd_var 10)) (pa_consD (pd_ixv 11 pd_int) (pa_consD (pd_ixv 11 pd_int) pa_nilD)))))) (s_one (s_ret pd_bl)) s_nil)))))))))))))))
    (s_one (s_ret pd_bl)))))
theorem cl__law_ordered (T : Tx P w K mg base cs) : ClR P w K mg base "_law_ordered" 3 (m__law_ordered K cs) := by
  obtain ⟨a, fd, F, hm⟩ := T.F__law_ordered
  exact cl_of (ok__law_ordered T F) hm F.kp (binds_all F (fun kV doc pm an cdv ct us hl => match us, hl with | [_, _, _], _ => rfl))
noncomputable def b_floor_of (K : PySem.W.Frag) (cs : Cs) : FD.Env → SOut :=
  (sRet (e2 (e2 (eVar 0) (eC (.int 0)) gIx) (e2 (eVar 0) (eC (.int 1)) gIx) (gI divB Int.fdiv)))
theorem sc_floor_of : FnScope ["a"] ["a"] (defScope s_floor_of) := ⟨rfl, rfl, rfl, by decide +kernel, rfl, by decide +kernel, by decide +kernel⟩
noncomputable def m_floor_of (K : PySem.W.Frag) (cs : Cs) : List Dt → Out Dt := argN 1 (runD 1 (b_floor_of K cs))
theorem ok_floor_of (T : Tx P w K mg base cs) {a : Addr} {fd : FuncData} (F : FunD K "floor_of" "floor_of" (defArgs s_floor_of) (defBody s_floor_of) (defScope s_floor_of) [] [] a fd) : FnOk P w K mg base (L2.CX P w) 1 a fd ["a"] (spD K 1 (runD 1 (b_floor_of K cs))) :=
  def_okD F sc_floor_of (fun cdv A outer s H E hr =>
    (s_one (s_ret (pd_fdiv (pd_ixv 0 pd_int) (pd_ixv 0 pd_int)))))
theorem cl_floor_of (T : Tx P w K mg base cs) : ClR P w K mg base "floor_of" 1 (m_floor_of K cs) := by
  obtain ⟨a, fd, F, hm⟩ := T.F_floor_of
  exact cl_of (ok_floor_of T F) hm F.kp (binds_all F (fun kV doc pm an cdv ct us hl => match us, hl with | [_], _ => rfl))
noncomputable def b_ceiling_of (K : PySem.W.Frag) (cs : Cs) : FD.Env → SOut :=
  (sRet (e1 (e2 (e1 (e2 (eVar 0) (eC (.int 0)) gIx) gNeg) (e2 (eVar 0) (eC (.int 1)) gIx) (gI divB Int.fdiv)) gNeg))
theorem sc_ceiling_of : FnScope ["a"] ["a"] (defScope s_ceiling_of) := ⟨rfl, rfl, rfl, by decide +kernel, rfl, by decide +kernel, by decide +kernel⟩
noncomputable def m_ceiling_of (K : PySem.W.Frag) (cs : Cs) : List Dt → Out Dt := argN 1 (runD 1 (b_ceiling_of K cs))
theorem ok_ceiling_of (T : Tx P w K mg base cs) {a : Addr} {fd : FuncData} (F : FunD K "ceiling_of" "ceiling_of" (defArgs s_ceiling_of) (defBody s_ceiling_of) (defScope s_ceiling_of) [] [] a fd) : FnOk P w K mg base (L2.CX P w) 1 a fd ["a"] (spD K 1 (runD 1 (b_ceiling_of K cs))) :=
  def_okD F sc_ceiling_of (fun cdv A outer s H E hr =>
    (s_one (s_ret (pd_neg (pd_fdiv (pd_neg (pd_ixv 0 pd_int)) (pd_ixv 0 pd_int))))))
theorem cl_ceiling_of (T : Tx P w K mg base cs) : ClR P w K mg base "ceiling_of" 1 (m_ceiling_of K cs) := by
  obtain ⟨a, fd, F, hm⟩ := T.F_ceiling_of
  exact cl_of (ok_ceiling_of T F) hm F.kp (binds_all F (fun kV doc pm an cdv ct us hl => match us, hl with | [_], _ => rfl))
noncomputable def b__law_steps (K : PySem.W.Frag) (cs : Cs) : FD.Env → SOut :=
  (sSeq (sSet 1 (eCallR (m_floor_of K cs) (aCons (eVar 0) aNil)) [0])
    (sSeq (sSet 2 (eCallR (m_ceiling_of K cs) (aCons (eVar 0) aNil)) [0])
    (sSeq (sIf (tOrD (tNotD (t1 (eCallR (m__law_is_integer K cs) (aCons (eVar 1) aNil)) truD)) (tNotD (t1 (eCallR (m__law_is_integer K cs) (aCons (eVar 2) aNil)) truD))) (sRet (eC (.bl false))) sNext)
    (sRet (eAnd (eT (eChain (e2 (eVar 1) (e2 (eVar 0) (eC (.int 1)) gIx) (gI mulB (· * ·))) (e2 (eVar 0) (eC (.int 0)) gIx) (e2 (e2 (eVar 1) (eC (.int 1)) gAdd) (e2 (eVar 0) (eC (.int 1)) gIx) (gI mulB (· * ·))) (cI fun i j => decide (i ≤ j)) (cI fun i j => decide (i < j)))) (eT (eChain (e2 (e2 (eVar 2) (eC (.int 1)) (gI0 (· - ·))) (e2 (eVar 0) (eC (.int 1)) gIx) (gI mulB (· * ·))) (e2 (eVar 0) (eC (.int 0)) gIx) (e2 (eVar 2) (e2 (eVar 0) (eC (.int 1)) gIx) (gI mulB (· * ·))) (cI fun i j => decide (i < j)) (cI fun i j => decide (i ≤ j)))))))))
theorem sc__law_steps : FnScope ["_law_a", "_law_low", "_law_high"] ["_law_a"] (defScope s__law_steps) := ⟨rfl, rfl, rfl, by decide +kernel, rfl, by decide +kernel, by decide +kernel⟩
noncomputable def m__law_steps (K : PySem.W.Frag) (cs : Cs) : List Dt → Out Dt := argN 1 (runD 3 (b__law_steps K cs))
theorem ok__law_steps (T : Tx P w K mg base cs) {a : Addr} {fd : FuncData} (F : FunD K "_law_steps" "_law_steps" (defArgs s__law_steps) (defBody s__law_steps) (defScope s__law_steps) [] [] a fd) : FnOk P w K mg base (L2.CX P w) 2 a fd ["_law_a"] (spD K 1 (runD 3 (b__law_steps K cs))) :=
  def_okD F sc__law_steps (fun cdv A outer s H E hr =>
    (s_cons (s_set 1 sc__law_steps.nd (pd_callR (cl_floor_of T) (takes_of (by rfl) (by rfl) (by rfl) (by rfl)) hr (by decide) (by rfl) (pa_consD (pd_var 0) pa_nilD)))
    (s_cons (s_set 2 sc__law_steps.nd (pd_callR (cl_ceiling_of T) (takes_of (by rfl) (by rfl) (by rfl) (by rfl)) hr (by decide) (by rfl) (pa_consD (pd_var 0) pa_nilD)))
    (s_cons (s_if (ptw (pw_orD (pt_notD (pt_v (pd_callR (cl__law_is_integer T) (takes_of (by rfl) (by rfl) (by rfl) (by rfl)) hr (by decide) (by rfl) (pa_consD (pd_var 1) pa_nilD)))) (pw_or1D (pt_notD (pt_v (pd_callR (cl__law_is_integer T) (takes_of (by rfl) (by rfl) (by rfl) (by rfl)) hr (by decide) (by rfl) (pa_consD (pd_var 2) pa_nilD))))))) (s_one (s_ret pd_bl)) s_nil)
    (s_one (s_ret (pd_and (pd_chain cm_le cm_lt (pd_mul (pd_var 1) (pd_ixv 0 pd_int)) (pd_ixv 0 pd_int) (pd_mul (pd_add (pd_var 1) pd_int) (pd_ixv 0 pd_int))) (pd_one (pd_chain cm_lt cm_le (pd_mul (pd_sub (pd_var 2) pd_int) (pd_ixv 0 pd_int)) (pd_ixv 0 pd_int) (pd_mul (pd_var 2) (pd_ixv 0 pd_int)))))))))))
theorem cl__law_steps (T : Tx P w K mg base cs) : ClR P w K mg base "_law_steps" 2 (m__law_steps K cs) := by
  obtain ⟨a, fd, F, hm⟩ := T.F__law_steps
  exact cl_of (ok__law_steps T F) hm F.kp (binds_all F (fun kV doc pm an cdv ct us hl => match us, hl with | [_], _ => rfl))
noncomputable def b_law (K : PySem.W.Frag) (cs : Cs) : FD.Env → SOut :=
  (sSeq (sSet 1 (eCallR (m__law_fractions K cs) (aCons (eVar 0) aNil)) [0])
    (sSeq (sSet 2 (eCallR (m__law_signed K cs) (aCons (eCallR (m__law_cell K cs) (aCons (eVar 0) (aCons (eC (.int 6)) aNil))) (aCons (e2 (eC (.int 10)) (eC (.int 20)) (gI powB fun i j => i ^ j.toNat)) aNil))) [0])
    (sSeq (sSet 3 (eCallR (m__law_nonzero K cs) (aCons (eCallR (m__law_cell K cs) (aCons (eVar 0) (aCons (eC (.int 8)) aNil))) (aCons (e2 (eC (.int 10)) (eC (.int 20)) (gI powB fun i j => i ^ j.toNat)) aNil))) [0])
    (sSeq (sFor (uName 4) (oSeq (eVar 1)) [1]
    (sIf (tOrD (tNotD (t1 (eCallR (m__law_made K cs) (aCons (e2 (eVar 4) (eC (.int 0)) gIx) (aCons (e2 (eVar 4) (eC (.int 1)) gIx) (aCons (eVar 3) aNil)))) truD)) (tNotD (t1 (eCallR (m__law_refused K cs) (aCons (e2 (eVar 4) (eC (.int 0)) gIx) aNil)) truD))) (sRet (eC (.bl false))) sNext))
    (sSeq (sIf (tOrD (tNotD (t1 (eCallR (m__law_refused K cs) (aCons (eC (.int 0)) aNil)) truD)) (tNotD (t1 (eCallR (m__law_refused_by_base K cs) (aCons (e2 (e2 (eVar 1) (eC (.int 0)) gIx) (eC (.int 0)) gIx) aNil)) truD))) (sRet (eC (.bl false))) sNext)
    (sSeq (sSetL 5 (lLc (uName 4) [4] tYesD (eCallR (m__law_lowest K cs) (aCons (e2 (eVar 4) (eC (.int 0)) gIx) (aCons (e2 (eVar 4) (eC (.int 1)) gIx) aNil))) (oSeq (eVar 1)) [1]) [1, 4])
    (sSeq (sFor (uName 6) (oSeq (eVar 5)) [5]
    (sIf (tNotD (t1 (eCallR (m__law_steps K cs) (aCons (eVar 6) aNil)) truD)) (sRet (eC (.bl false))) sNext))
    (sSeq (sSet 7 (e2 (eVar 5) (eC (.int 0)) gIx) [])
    (sSeq (sSet 8 (e2 (eVar 5) (eC (.int 1)) gIx) [])
    (sSeq (sSet 9 (e2 (eVar 5) (eC (.int 2)) gIx) [])
    (sRet (eAnd (eCallR (m__law_sums K cs) (aCons (eVar 7) (aCons (eVar 8) (aCons (eVar 9) (aCons (eVar 2) aNil))))) (eCallR (m__law_ordered K cs) (aCons (eVar 7) (aCons (eVar 8) (aCons (eVar 9) aNil))))))))))))))))
theorem sc_law : FnScope ["_law_script", "_law_rows", "_law_k", "_law_factor", "_law_row", "_law_numbers", "_law_number", "_law_a", "_law_b", "_law_c"] ["_law_script"] (defScope s_law) := ⟨rfl, rfl, rfl, by decide +kernel, rfl, by decide +kernel, by decide +kernel⟩
noncomputable def m_law (K : PySem.W.Frag) (cs : Cs) : List Dt → Out Dt := argN 1 (runD 10 (b_law K cs))
theorem ok_law (T : Tx P w K mg base cs) {a : Addr} {fd : FuncData} (F : FunD K "law" "law" (defArgs s_law) (defBody s_law) (defScope s_law) [] [] a fd) : FnOk P w K mg base (L2.CX P w) 6 a fd ["_law_script"] (spD K 1 (runD 10 (b_law K cs))) :=
  def_okD F sc_law (fun cdv A outer s H E hr =>
    (s_cons (s_set 1 sc_law.nd (pd_callR (cl__law_fractions T) (takes_of (by rfl) (by rfl) (by rfl) (by rfl)) hr (by decide) (by rfl) (pa_consD (pd_var 0) pa_nilD)))
    (s_cons (s_set 2 sc_law.nd (pd_callR (cl__law_signed T) (takes_of (by rfl) (by rfl) (by rfl) (by rfl)) hr (by decide) (by rfl) (pa_consD (pd_callR (cl__law_cell T) (takes_of (by rfl) (by rfl) (by rfl) (by rfl)) hr (by decide) (by rfl) (pa_consD (pd_var 0) (pa_consD pd_int pa_nilD))) (pa_consD (pd_pow pd_int pd_int) pa_nilD))))
    (s_cons (s_set 3 sc_law.nd (pd_callR (cl__law_nonzero T) (takes_of (by rfl) (by rfl) (by rfl) (by rfl)) hr (by decide) (by rfl) (pa_consD (pd_callR (cl__law_cell T) (takes_of (by rfl) (by rfl) (by rfl) (by rfl)) hr (by decide) (by rfl) (pa_consD (pd_var 0) (pa_consD pd_int pa_nilD))) (pa_consD (pd_pow pd_int pd_int) pa_nilD))))
    (s_cons (s_for (passes_of (by rfl)) (by rfl) (pi_seqD (pd_var 1)) (g_name 4 sc_law.nd)
    (s_one (s_if (ptw (pw_orD (pt_notD (pt_v (pd_callR (cl__law_made T) (takes_of (by rfl) (by rfl) (by rfl) (by rfl)) hr (by decide) (by rfl) (pa_consD (pd_ixv 4 pd_int) (pa_consD (pd_ixv 4 pd_int) (pa_consD (pd_var 3) pa_nilD)))))) (pw_or1D (pt_notD (pt_v (pd_callR (cl__law_refused T) (takes_of (by rfl) (by rfl) (by rfl) (by rfl)) hr (by decide) (by rfl) (pa_consD (pd_ixv 4 pd_int) pa_nilD))))))) (s_one (s_ret pd_bl)) s_nil)))
    (s_cons (s_if (ptw (pw_orD (pt_notD (pt_v (pd_callR (cl__law_refused T) (takes_of (by rfl) (by rfl) (by rfl) (by rfl)) hr (by decide) (by rfl) (pa_consD pd_int pa_nilD)))) (pw_or1D (pt_notD (pt_v (pd_callR (cl__law_refused_by_base T) (takes_of (by rfl) (by rfl) (by rfl) (by rfl)) hr (by decide) (by rfl) (pa_consD (pd_ix (pd_ixv 1 pd_int) pd_int) pa_nilD))))))) (s_one (s_ret pd_bl)) s_nil)
    (s_cons (s_setLc 5 [("_law_row", 4)] (by rfl) sc_law.nd (pi_seqD (pd_var 1)) (fun s2 H2 C2 cl2 fp2 => (g_name 4 sc_law.nd)) (fun s2 H2 C2 cl2 fp2 => ts_nil) (fun s2 H2 C2 cl2 fp2 => (pd_callR (cl__law_lowest T) takes0 hr (by decide) (by rfl) (pa_consD (pd_ixv 4 pd_int) (pa_consD (pd_ixv 4 pd_int) pa_nilD)))) (ok := by exact blkOk_by (N := ["_law_script", "_law_rows", "_law_k", "_law_factor", "_law_row", "_law_numbers", "_law_number", "_law_a", "_law_b", "_law_c"]) (sc := defScope s_law) (by decide +kernel)))
    (s_cons (s_for (passes_of (by rfl)) (by rfl) (pi_seqD (pd_var 5)) (g_name 6 sc_law.nd)
    (s_one (s_if (pt_notD (pt_v (pd_callR (cl__law_steps T) (takes_of (by rfl) (by rfl) (by rfl) (by rfl)) hr (by decide) (by rfl) (pa_consD (pd_var 6) pa_nilD)))) (s_one (s_ret pd_bl)) s_nil)))
    (s_cons (s_set 7 sc_law.nd (pd_ixv 5 pd_int))
    (s_cons (s_set 8 sc_law.nd (pd_ixv 5 pd_int))
    (s_cons (s_set 9 sc_law.nd (pd_ixv 5 pd_int))
    (s_one (s_ret (pd_and (pd_callR (cl__law_sums T) (takes_of (by rfl) (by rfl) (by rfl) (by rfl)) hr (by decide) (by rfl) (pa_consD (pd_var 7) (pa_consD (pd_var 8) (pa_consD (pd_var 9) (pa_consD (pd_var 2) pa_nilD))))) (pd_one (pd_callR (cl__law_ordered T) (takes_of (by rfl) (by rfl) (by rfl) (by rfl)) hr (by decide) (by rfl) (pa_consD (pd_var 7) (pa_consD (pd_var 8) (pa_consD (pd_var 9) pa_nilD)))))))))))))))))))
end
end Lk00

namespace Lk00
open PySem L2 FD
variable {K : PySem.W.Frag} {cs : Cs}
/-! ### cells -/
theorem cell_loop {k d4 : Option Lo} : ∀ (cs' : List Int) (sc x : Option Lo) (s : Int), 0 ≤ s → s < 2147483647 → ∃ (s' : Int) (x' : Option Lo), 0 ≤ s' ∧ s' < 2147483647 ∧
    forD (uName 3) (sSet 2 (e2 (eB gInt (aCons (e2 (e2 (e2 (eVar 2) (eC (.int 48271)) (gI mulB (· * ·))) (eB gInt (aCons (eVar 3) aNil)) gAdd) (eC (.int 1)) gAdd) aNil)) (eC (.int 2147483647)) (gI nzB Int.fmod)) []) (cs'.map .int) [sc, k, some (.sh (.int s)), x, d4] = .ok .nx [sc, k, some (.sh (.int s')), x', d4]
  | [], sc, x, s, h0, h1 => ⟨s, x, h0, h1, rfl⟩
  | c :: r, sc, x, s, h0, h1 => by
    have hs : Bd 31 s := by unfold Bd; omega
    have hm : mulB s 48271 = true := mulB_of hs (show Bd 16 48271 by unfold Bd; decide) (by decide)
    have hz : (2147483647 : Int) ≠ 0 := by decide
    obtain ⟨s', x', a0, a1, e⟩ := cell_loop r sc (some (.sh (.int c))) ((s * 48271 + c + 1).fmod 2147483647) (Int.fmod_nonneg_of_pos _ (by decide)) (Int.fmod_lt_of_pos _ (by decide))
    refine ⟨s', x', a0, a1, ?_⟩
    rw [List.map_cons]
    simp only [FD.sSeq_ap, FD.sNext_ap, FD.sBrk_ap, FD.sCont_ap, FD.sIf_ap, FD.sSet_ap, FD.sSetL_ap, FD.sDrop_ap, FD.sRet_ap, FD.sRetN_ap, FD.sFor_ap, FD.sAsg_ap, FD.sRaise_ap, FD.sAppend_ap, FD.sSetIx_ap, FD.eC_ap, FD.eVar_0, FD.eVar_s, FD.e1_ap, FD.e2_ap, FD.t1_ap, FD.t2_ap, FD.eT_ap, FD.tAnd_ap, FD.tOr_ap, FD.tNot_ap, FD.eIf_ap, FD.aNil_ap, FD.aCons_ap, FD.eTup_ap, FD.lLst_ap, FD.eL_ap, FD.eB_ap, FD.eCallR_ap, FD.eAnd_ap, FD.eOr_ap, FD.eNot_ap, FD.eChain_ap, FD.oSeq_ap, FD.oRange_ap, FD.oNone_ap, FD.oInt_ap, FD.lCut_ap, FD.gCutL_lst, FD.gCutL_fls, FD.frzD_int, FD.frzD_bl, FD.frzD_str, FD.frzD_non, FD.frzD_nil, FD.frzD_lst, FD.frzD_fls, FD.outS_nx, FD.outS_rt, FD.outS_exc, FD.runD_eq, FD.Out.bind_ok, FD.Out.bind_exc, FD.Out.bind_bad, FD.stE_ok, FD.stE_exc, FD.stE_bad, FD.andThen_nx, FD.andThen_bk, FD.andThen_ct, FD.andThen_rt, FD.andThen_exc, FD.andThen_bad, FD.ofO_some, FD.ofO_none, FD.Lo.d_sh, FD.Lo.d_ol, FD.Lo.d_od, FD.frz_nil, FD.frz_cons, FD.frz1_0, FD.frz1_n, FD.frz1_s, FD.uName_ap, FD.uTup_ap, FD.uCons_ap, FD.uNil_ap, FD.turn_nx, FD.turn_ct, FD.turn_bk, FD.turn_rt, FD.turn_exc, FD.forD_nil, FD.forD_n, FD.atI_0, FD.atI_1, FD.atI_2, FD.atI_3, FD.unset_rt, FD.unset_nx, FD.unset_bk, FD.unset_ct, Option.bind_some, Option.map_some, FD.gI_int, FD.gI0_int, FD.cI_int, FD.gAdd_int, FD.gNeg_int, FD.eqD_int, FD.eqD_str, FD.eqD_bl, FD.eqD_non, FD.neg2_eq, FD.blD_bl, FD.truD_non, FD.truD_bl, FD.truD_int, FD.truD_tup, FD.truD_lst, FD.truD_fls, FD.truD_dic, FD.Dt.seq_tup, FD.Dt.seq_lst, FD.Dt.seq_fls, FD.gLen_tup, FD.gLen_lst, FD.gLen_fls, FD.gInt_int, FD.gInt_bl, FD.gAbs_int, FD.gGcd_int, FD.gIx_tup, FD.gIx_lst, FD.gIx_fls, FD.isi_int_int, FD.isi_int_bool, FD.isi_bool_int, FD.isi_bool_bool, FD.isi_tup, FD.isi_lst, List.map_cons, List.map_nil, List.length_cons, List.length_nil, List.cons_append, List.nil_append, List.set_cons_zero, List.set_cons_succ, List.getElem?_cons_zero, List.getElem?_cons_succ, Nat.reduceAdd, Nat.reduceSub, Nat.zero_add, Nat.sub_self, List.replicate_zero, List.replicate_succ, Nat.reduceLeDiff, if_true, if_false, Bool.false_eq_true, Bool.not_true, Bool.not_false, decide_eq_true_eq, hm, nzB_of hz]
    exact e
theorem e_cell (ns : List Int) {k : Int} (h0 : 0 ≤ k) (h1 : k ≤ 1000) : ∃ z : Int, m__law_cell K cs [.fls (ns.map .int), .int k] = .ok (.int z) := by
  unfold m__law_cell argN b__law_cell
  by_cases hk : k < (ns.length : Int)
  · obtain ⟨z, hz, _⟩ := atI_in h0 hk
    refine ⟨z, ?_⟩
    simp only [FD.sSeq_ap, FD.sNext_ap, FD.sBrk_ap, FD.sCont_ap, FD.sIf_ap, FD.sSet_ap, FD.sSetL_ap, FD.sDrop_ap, FD.sRet_ap, FD.sRetN_ap, FD.sFor_ap, FD.sAsg_ap, FD.sRaise_ap, FD.sAppend_ap, FD.sSetIx_ap, FD.eC_ap, FD.eVar_0, FD.eVar_s, FD.e1_ap, FD.e2_ap, FD.t1_ap, FD.t2_ap, FD.eT_ap, FD.tAnd_ap, FD.tOr_ap, FD.tNot_ap, FD.eIf_ap, FD.aNil_ap, FD.aCons_ap, FD.eTup_ap, FD.lLst_ap, FD.eL_ap, FD.eB_ap, FD.eCallR_ap, FD.eAnd_ap, FD.eOr_ap, FD.eNot_ap, FD.eChain_ap, FD.oSeq_ap, FD.oRange_ap, FD.oNone_ap, FD.oInt_ap, FD.lCut_ap, FD.gCutL_lst, FD.gCutL_fls, FD.frzD_int, FD.frzD_bl, FD.frzD_str, FD.frzD_non, FD.frzD_nil, FD.frzD_lst, FD.frzD_fls, FD.outS_nx, FD.outS_rt, FD.outS_exc, FD.runD_eq, FD.Out.bind_ok, FD.Out.bind_exc, FD.Out.bind_bad, FD.stE_ok, FD.stE_exc, FD.stE_bad, FD.andThen_nx, FD.andThen_bk, FD.andThen_ct, FD.andThen_rt, FD.andThen_exc, FD.andThen_bad, FD.ofO_some, FD.ofO_none, FD.Lo.d_sh, FD.Lo.d_ol, FD.Lo.d_od, FD.frz_nil, FD.frz_cons, FD.frz1_0, FD.frz1_n, FD.frz1_s, FD.uName_ap, FD.uTup_ap, FD.uCons_ap, FD.uNil_ap, FD.turn_nx, FD.turn_ct, FD.turn_bk, FD.turn_rt, FD.turn_exc, FD.forD_nil, FD.forD_n, FD.atI_0, FD.atI_1, FD.atI_2, FD.atI_3, FD.unset_rt, FD.unset_nx, FD.unset_bk, FD.unset_ct, Option.bind_some, Option.map_some, FD.gI_int, FD.gI0_int, FD.cI_int, FD.gAdd_int, FD.gNeg_int, FD.eqD_int, FD.eqD_str, FD.eqD_bl, FD.eqD_non, FD.neg2_eq, FD.blD_bl, FD.truD_non, FD.truD_bl, FD.truD_int, FD.truD_tup, FD.truD_lst, FD.truD_fls, FD.truD_dic, FD.Dt.seq_tup, FD.Dt.seq_lst, FD.Dt.seq_fls, FD.gLen_tup, FD.gLen_lst, FD.gLen_fls, FD.gInt_int, FD.gInt_bl, FD.gAbs_int, FD.gGcd_int, FD.gIx_tup, FD.gIx_lst, FD.gIx_fls, FD.isi_int_int, FD.isi_int_bool, FD.isi_bool_int, FD.isi_bool_bool, FD.isi_tup, FD.isi_lst, List.map_cons, List.map_nil, List.length_cons, List.length_nil, List.cons_append, List.nil_append, List.set_cons_zero, List.set_cons_succ, List.getElem?_cons_zero, List.getElem?_cons_succ, Nat.reduceAdd, Nat.reduceSub, Nat.zero_add, Nat.sub_self, List.replicate_zero, List.replicate_succ, Nat.reduceLeDiff, if_true, if_false, Bool.false_eq_true, Bool.not_true, Bool.not_false, decide_eq_true_eq, List.length_map, hk, atI_map, hz]
  · obtain ⟨ys, hy⟩ := cutD_map (.int : Int → Dt) ns none (some 8)
    obtain ⟨s', x', a0, a1, e⟩ := cell_loop (k := some (.sh (.int k))) (d4 := none) ys (some (.sh (.fls (ns.map .int)))) none 0 (by decide) (by decide)
    have hz : (2147483647 : Int) ≠ 0 := by decide
    have hz2 : (2147483629 : Int) ≠ 0 := by decide
    have m1 : mulB s' 69621 = true := mulB_of (m := 31) (n := 17) (by unfold Bd; omega) (by unfold Bd; decide) (by decide)
    have m2 : mulB (k + 1) 1103515245 = true := mulB_of (m := 31) (n := 31) (by unfold Bd; omega) (by unfold Bd; decide) (by decide)
    have m3 : ∀ o : Int, mulB (Int.fmod o 2147483647) (Int.fmod o 2147483647) = true := fun o => by
      have a := Int.fmod_nonneg_of_pos o (show (0 : Int) < 2147483647 by decide)
      have b := Int.fmod_lt_of_pos o (show (0 : Int) < 2147483647 by decide)
      exact mulB_of (m := 31) (n := 31) (by unfold Bd; omega) (by unfold Bd; omega) (by decide)
    refine ⟨?z, ?h⟩
    case h =>
      simp only [FD.sSeq_ap, FD.sNext_ap, FD.sBrk_ap, FD.sCont_ap, FD.sIf_ap, FD.sSet_ap, FD.sSetL_ap, FD.sDrop_ap, FD.sRet_ap, FD.sRetN_ap, FD.sFor_ap, FD.sAsg_ap, FD.sRaise_ap, FD.sAppend_ap, FD.sSetIx_ap, FD.eC_ap, FD.eVar_0, FD.eVar_s, FD.e1_ap, FD.e2_ap, FD.t1_ap, FD.t2_ap, FD.eT_ap, FD.tAnd_ap, FD.tOr_ap, FD.tNot_ap, FD.eIf_ap, FD.aNil_ap, FD.aCons_ap, FD.eTup_ap, FD.lLst_ap, FD.eL_ap, FD.eB_ap, FD.eCallR_ap, FD.eAnd_ap, FD.eOr_ap, FD.eNot_ap, FD.eChain_ap, FD.oSeq_ap, FD.oRange_ap, FD.oNone_ap, FD.oInt_ap, FD.lCut_ap, FD.gCutL_lst, FD.gCutL_fls, FD.frzD_int, FD.frzD_bl, FD.frzD_str, FD.frzD_non, FD.frzD_nil, FD.frzD_lst, FD.frzD_fls, FD.outS_nx, FD.outS_rt, FD.outS_exc, FD.runD_eq, FD.Out.bind_ok, FD.Out.bind_exc, FD.Out.bind_bad, FD.stE_ok, FD.stE_exc, FD.stE_bad, FD.andThen_nx, FD.andThen_bk, FD.andThen_ct, FD.andThen_rt, FD.andThen_exc, FD.andThen_bad, FD.ofO_some, FD.ofO_none, FD.Lo.d_sh, FD.Lo.d_ol, FD.Lo.d_od, FD.frz_nil, FD.frz_cons, FD.frz1_0, FD.frz1_n, FD.frz1_s, FD.uName_ap, FD.uTup_ap, FD.uCons_ap, FD.uNil_ap, FD.turn_nx, FD.turn_ct, FD.turn_bk, FD.turn_rt, FD.turn_exc, FD.forD_nil, FD.forD_n, FD.atI_0, FD.atI_1, FD.atI_2, FD.atI_3, FD.unset_rt, FD.unset_nx, FD.unset_bk, FD.unset_ct, Option.bind_some, Option.map_some, FD.gI_int, FD.gI0_int, FD.cI_int, FD.gAdd_int, FD.gNeg_int, FD.eqD_int, FD.eqD_str, FD.eqD_bl, FD.eqD_non, FD.neg2_eq, FD.blD_bl, FD.truD_non, FD.truD_bl, FD.truD_int, FD.truD_tup, FD.truD_lst, FD.truD_fls, FD.truD_dic, FD.Dt.seq_tup, FD.Dt.seq_lst, FD.Dt.seq_fls, FD.gLen_tup, FD.gLen_lst, FD.gLen_fls, FD.gInt_int, FD.gInt_bl, FD.gAbs_int, FD.gGcd_int, FD.gIx_tup, FD.gIx_lst, FD.gIx_fls, FD.isi_int_int, FD.isi_int_bool, FD.isi_bool_int, FD.isi_bool_bool, FD.isi_tup, FD.isi_lst, List.map_cons, List.map_nil, List.length_cons, List.length_nil, List.cons_append, List.nil_append, List.set_cons_zero, List.set_cons_succ, List.getElem?_cons_zero, List.getElem?_cons_succ, Nat.reduceAdd, Nat.reduceSub, Nat.zero_add, Nat.sub_self, List.replicate_zero, List.replicate_succ, Nat.reduceLeDiff, if_true, if_false, Bool.false_eq_true, Bool.not_true, Bool.not_false, decide_eq_true_eq, List.length_map, hk, hy, e, nzB_of hz, nzB_of hz2, m1, m2, m3]
      rfl
theorem e_signed {c l : Int} (hl : 0 < l) : ∃ z : Int, m__law_signed K cs [.int c, .int l] = .ok (.int z) ∧ z.natAbs < l.natAbs := by
  unfold m__law_signed argN b__law_signed
  have h2 : (2 : Int) ≠ 0 := by decide
  have hl2 : l ≠ 0 := by omega
  have a := Int.fmod_nonneg_of_pos (c.fdiv 2) hl
  have b := Int.fmod_lt_of_pos (c.fdiv 2) hl
  have d2 : divB c 2 = true := divB_of (m := 2) h2 (by unfold Bd; decide) (by decide)
  by_cases hc : (c.fmod 2 == 1) = true
  · refine ⟨-((c.fdiv 2).fmod l), ?_, by omega⟩
    simp only [FD.sSeq_ap, FD.sNext_ap, FD.sBrk_ap, FD.sCont_ap, FD.sIf_ap, FD.sSet_ap, FD.sSetL_ap, FD.sDrop_ap, FD.sRet_ap, FD.sRetN_ap, FD.sFor_ap, FD.sAsg_ap, FD.sRaise_ap, FD.sAppend_ap, FD.sSetIx_ap, FD.eC_ap, FD.eVar_0, FD.eVar_s, FD.e1_ap, FD.e2_ap, FD.t1_ap, FD.t2_ap, FD.eT_ap, FD.tAnd_ap, FD.tOr_ap, FD.tNot_ap, FD.eIf_ap, FD.aNil_ap, FD.aCons_ap, FD.eTup_ap, FD.lLst_ap, FD.eL_ap, FD.eB_ap, FD.eCallR_ap, FD.eAnd_ap, FD.eOr_ap, FD.eNot_ap, FD.eChain_ap, FD.oSeq_ap, FD.oRange_ap, FD.oNone_ap, FD.oInt_ap, FD.lCut_ap, FD.gCutL_lst, FD.gCutL_fls, FD.frzD_int, FD.frzD_bl, FD.frzD_str, FD.frzD_non, FD.frzD_nil, FD.frzD_lst, FD.frzD_fls, FD.outS_nx, FD.outS_rt, FD.outS_exc, FD.runD_eq, FD.Out.bind_ok, FD.Out.bind_exc, FD.Out.bind_bad, FD.stE_ok, FD.stE_exc, FD.stE_bad, FD.andThen_nx, FD.andThen_bk, FD.andThen_ct, FD.andThen_rt, FD.andThen_exc, FD.andThen_bad, FD.ofO_some, FD.ofO_none, FD.Lo.d_sh, FD.Lo.d_ol, FD.Lo.d_od, FD.frz_nil, FD.frz_cons, FD.frz1_0, FD.frz1_n, FD.frz1_s, FD.uName_ap, FD.uTup_ap, FD.uCons_ap, FD.uNil_ap, FD.turn_nx, FD.turn_ct, FD.turn_bk, FD.turn_rt, FD.turn_exc, FD.forD_nil, FD.forD_n, FD.atI_0, FD.atI_1, FD.atI_2, FD.atI_3, FD.unset_rt, FD.unset_nx, FD.unset_bk, FD.unset_ct, Option.bind_some, Option.map_some, FD.gI_int, FD.gI0_int, FD.cI_int, FD.gAdd_int, FD.gNeg_int, FD.eqD_int, FD.eqD_str, FD.eqD_bl, FD.eqD_non, FD.neg2_eq, FD.blD_bl, FD.truD_non, FD.truD_bl, FD.truD_int, FD.truD_tup, FD.truD_lst, FD.truD_fls, FD.truD_dic, FD.Dt.seq_tup, FD.Dt.seq_lst, FD.Dt.seq_fls, FD.gLen_tup, FD.gLen_lst, FD.gLen_fls, FD.gInt_int, FD.gInt_bl, FD.gAbs_int, FD.gGcd_int, FD.gIx_tup, FD.gIx_lst, FD.gIx_fls, FD.isi_int_int, FD.isi_int_bool, FD.isi_bool_int, FD.isi_bool_bool, FD.isi_tup, FD.isi_lst, List.map_cons, List.map_nil, List.length_cons, List.length_nil, List.cons_append, List.nil_append, List.set_cons_zero, List.set_cons_succ, List.getElem?_cons_zero, List.getElem?_cons_succ, Nat.reduceAdd, Nat.reduceSub, Nat.zero_add, Nat.sub_self, List.replicate_zero, List.replicate_succ, Nat.reduceLeDiff, if_true, if_false, Bool.false_eq_true, Bool.not_true, Bool.not_false, decide_eq_true_eq, d2, nzB_of h2, nzB_of hl2, hc]
  · refine ⟨(c.fdiv 2).fmod l, ?_, by omega⟩
    simp only [FD.sSeq_ap, FD.sNext_ap, FD.sBrk_ap, FD.sCont_ap, FD.sIf_ap, FD.sSet_ap, FD.sSetL_ap, FD.sDrop_ap, FD.sRet_ap, FD.sRetN_ap, FD.sFor_ap, FD.sAsg_ap, FD.sRaise_ap, FD.sAppend_ap, FD.sSetIx_ap, FD.eC_ap, FD.eVar_0, FD.eVar_s, FD.e1_ap, FD.e2_ap, FD.t1_ap, FD.t2_ap, FD.eT_ap, FD.tAnd_ap, FD.tOr_ap, FD.tNot_ap, FD.eIf_ap, FD.aNil_ap, FD.aCons_ap, FD.eTup_ap, FD.lLst_ap, FD.eL_ap, FD.eB_ap, FD.eCallR_ap, FD.eAnd_ap, FD.eOr_ap, FD.eNot_ap, FD.eChain_ap, FD.oSeq_ap, FD.oRange_ap, FD.oNone_ap, FD.oInt_ap, FD.lCut_ap, FD.gCutL_lst, FD.gCutL_fls, FD.frzD_int, FD.frzD_bl, FD.frzD_str, FD.frzD_non, FD.frzD_nil, FD.frzD_lst, FD.frzD_fls, FD.outS_nx, FD.outS_rt, FD.outS_exc, FD.runD_eq, FD.Out.bind_ok, FD.Out.bind_exc, FD.Out.bind_bad, FD.stE_ok, FD.stE_exc, FD.stE_bad, FD.andThen_nx, FD.andThen_bk, FD.andThen_ct, FD.andThen_rt, FD.andThen_exc, FD.andThen_bad, FD.ofO_some, FD.ofO_none, FD.Lo.d_sh, FD.Lo.d_ol, FD.Lo.d_od, FD.frz_nil, FD.frz_cons, FD.frz1_0, FD.frz1_n, FD.frz1_s, FD.uName_ap, FD.uTup_ap, FD.uCons_ap, FD.uNil_ap, FD.turn_nx, FD.turn_ct, FD.turn_bk, FD.turn_rt, FD.turn_exc, FD.forD_nil, FD.forD_n, FD.atI_0, FD.atI_1, FD.atI_2, FD.atI_3, FD.unset_rt, FD.unset_nx, FD.unset_bk, FD.unset_ct, Option.bind_some, Option.map_some, FD.gI_int, FD.gI0_int, FD.cI_int, FD.gAdd_int, FD.gNeg_int, FD.eqD_int, FD.eqD_str, FD.eqD_bl, FD.eqD_non, FD.neg2_eq, FD.blD_bl, FD.truD_non, FD.truD_bl, FD.truD_int, FD.truD_tup, FD.truD_lst, FD.truD_fls, FD.truD_dic, FD.Dt.seq_tup, FD.Dt.seq_lst, FD.Dt.seq_fls, FD.gLen_tup, FD.gLen_lst, FD.gLen_fls, FD.gInt_int, FD.gInt_bl, FD.gAbs_int, FD.gGcd_int, FD.gIx_tup, FD.gIx_lst, FD.gIx_fls, FD.isi_int_int, FD.isi_int_bool, FD.isi_bool_int, FD.isi_bool_bool, FD.isi_tup, FD.isi_lst, List.map_cons, List.map_nil, List.length_cons, List.length_nil, List.cons_append, List.nil_append, List.set_cons_zero, List.set_cons_succ, List.getElem?_cons_zero, List.getElem?_cons_succ, Nat.reduceAdd, Nat.reduceSub, Nat.zero_add, Nat.sub_self, List.replicate_zero, List.replicate_succ, Nat.reduceLeDiff, if_true, if_false, Bool.false_eq_true, Bool.not_true, Bool.not_false, decide_eq_true_eq, d2, nzB_of h2, nzB_of hl2, hc]
theorem e_nonzero {c l : Int} (hl : 2 ≤ l) : ∃ z : Int, m__law_nonzero K cs [.int c, .int l] = .ok (.int z) ∧ z.natAbs < l.natAbs ∧ z ≠ 0 := by
  obtain ⟨z, hz, hb⟩ := e_signed (K := K) (cs := cs) (c := c) (l := l) (by omega)
  unfold m__law_nonzero argN b__law_nonzero
  by_cases h0 : z = 0
  · subst h0
    refine ⟨1, ?_, by omega, by decide⟩
    simp only [FD.sSeq_ap, FD.sNext_ap, FD.sBrk_ap, FD.sCont_ap, FD.sIf_ap, FD.sSet_ap, FD.sSetL_ap, FD.sDrop_ap, FD.sRet_ap, FD.sRetN_ap, FD.sFor_ap, FD.sAsg_ap, FD.sRaise_ap, FD.sAppend_ap, FD.sSetIx_ap, FD.eC_ap, FD.eVar_0, FD.eVar_s, FD.e1_ap, FD.e2_ap, FD.t1_ap, FD.t2_ap, FD.eT_ap, FD.tAnd_ap, FD.tOr_ap, FD.tNot_ap, FD.eIf_ap, FD.aNil_ap, FD.aCons_ap, FD.eTup_ap, FD.lLst_ap, FD.eL_ap, FD.eB_ap, FD.eCallR_ap, FD.eAnd_ap, FD.eOr_ap, FD.eNot_ap, FD.eChain_ap, FD.oSeq_ap, FD.oRange_ap, FD.oNone_ap, FD.oInt_ap, FD.lCut_ap, FD.gCutL_lst, FD.gCutL_fls, FD.frzD_int, FD.frzD_bl, FD.frzD_str, FD.frzD_non, FD.frzD_nil, FD.frzD_lst, FD.frzD_fls, FD.outS_nx, FD.outS_rt, FD.outS_exc, FD.runD_eq, FD.Out.bind_ok, FD.Out.bind_exc, FD.Out.bind_bad, FD.stE_ok, FD.stE_exc, FD.stE_bad, FD.andThen_nx, FD.andThen_bk, FD.andThen_ct, FD.andThen_rt, FD.andThen_exc, FD.andThen_bad, FD.ofO_some, FD.ofO_none, FD.Lo.d_sh, FD.Lo.d_ol, FD.Lo.d_od, FD.frz_nil, FD.frz_cons, FD.frz1_0, FD.frz1_n, FD.frz1_s, FD.uName_ap, FD.uTup_ap, FD.uCons_ap, FD.uNil_ap, FD.turn_nx, FD.turn_ct, FD.turn_bk, FD.turn_rt, FD.turn_exc, FD.forD_nil, FD.forD_n, FD.atI_0, FD.atI_1, FD.atI_2, FD.atI_3, FD.unset_rt, FD.unset_nx, FD.unset_bk, FD.unset_ct, Option.bind_some, Option.map_some, FD.gI_int, FD.gI0_int, FD.cI_int, FD.gAdd_int, FD.gNeg_int, FD.eqD_int, FD.eqD_str, FD.eqD_bl, FD.eqD_non, FD.neg2_eq, FD.blD_bl, FD.truD_non, FD.truD_bl, FD.truD_int, FD.truD_tup, FD.truD_lst, FD.truD_fls, FD.truD_dic, FD.Dt.seq_tup, FD.Dt.seq_lst, FD.Dt.seq_fls, FD.gLen_tup, FD.gLen_lst, FD.gLen_fls, FD.gInt_int, FD.gInt_bl, FD.gAbs_int, FD.gGcd_int, FD.gIx_tup, FD.gIx_lst, FD.gIx_fls, FD.isi_int_int, FD.isi_int_bool, FD.isi_bool_int, FD.isi_bool_bool, FD.isi_tup, FD.isi_lst, List.map_cons, List.map_nil, List.length_cons, List.length_nil, List.cons_append, List.nil_append, List.set_cons_zero, List.set_cons_succ, List.getElem?_cons_zero, List.getElem?_cons_succ, Nat.reduceAdd, Nat.reduceSub, Nat.zero_add, Nat.sub_self, List.replicate_zero, List.replicate_succ, Nat.reduceLeDiff, if_true, if_false, Bool.false_eq_true, Bool.not_true, Bool.not_false, decide_eq_true_eq, hz, beq_self_eq_true]
  · have hb0 : (z == 0) = false := by simpa using h0
    refine ⟨z, ?_, hb, h0⟩
    simp only [FD.sSeq_ap, FD.sNext_ap, FD.sBrk_ap, FD.sCont_ap, FD.sIf_ap, FD.sSet_ap, FD.sSetL_ap, FD.sDrop_ap, FD.sRet_ap, FD.sRetN_ap, FD.sFor_ap, FD.sAsg_ap, FD.sRaise_ap, FD.sAppend_ap, FD.sSetIx_ap, FD.eC_ap, FD.eVar_0, FD.eVar_s, FD.e1_ap, FD.e2_ap, FD.t1_ap, FD.t2_ap, FD.eT_ap, FD.tAnd_ap, FD.tOr_ap, FD.tNot_ap, FD.eIf_ap, FD.aNil_ap, FD.aCons_ap, FD.eTup_ap, FD.lLst_ap, FD.eL_ap, FD.eB_ap, FD.eCallR_ap, FD.eAnd_ap, FD.eOr_ap, FD.eNot_ap, FD.eChain_ap, FD.oSeq_ap, FD.oRange_ap, FD.oNone_ap, FD.oInt_ap, FD.lCut_ap, FD.gCutL_lst, FD.gCutL_fls, FD.frzD_int, FD.frzD_bl, FD.frzD_str, FD.frzD_non, FD.frzD_nil, FD.frzD_lst, FD.frzD_fls, FD.outS_nx, FD.outS_rt, FD.outS_exc, FD.runD_eq, FD.Out.bind_ok, FD.Out.bind_exc, FD.Out.bind_bad, FD.stE_ok, FD.stE_exc, FD.stE_bad, FD.andThen_nx, FD.andThen_bk, FD.andThen_ct, FD.andThen_rt, FD.andThen_exc, FD.andThen_bad, FD.ofO_some, FD.ofO_none, FD.Lo.d_sh, FD.Lo.d_ol, FD.Lo.d_od, FD.frz_nil, FD.frz_cons, FD.frz1_0, FD.frz1_n, FD.frz1_s, FD.uName_ap, FD.uTup_ap, FD.uCons_ap, FD.uNil_ap, FD.turn_nx, FD.turn_ct, FD.turn_bk, FD.turn_rt, FD.turn_exc, FD.forD_nil, FD.forD_n, FD.atI_0, FD.atI_1, FD.atI_2, FD.atI_3, FD.unset_rt, FD.unset_nx, FD.unset_bk, FD.unset_ct, Option.bind_some, Option.map_some, FD.gI_int, FD.gI0_int, FD.cI_int, FD.gAdd_int, FD.gNeg_int, FD.eqD_int, FD.eqD_str, FD.eqD_bl, FD.eqD_non, FD.neg2_eq, FD.blD_bl, FD.truD_non, FD.truD_bl, FD.truD_int, FD.truD_tup, FD.truD_lst, FD.truD_fls, FD.truD_dic, FD.Dt.seq_tup, FD.Dt.seq_lst, FD.Dt.seq_fls, FD.gLen_tup, FD.gLen_lst, FD.gLen_fls, FD.gInt_int, FD.gInt_bl, FD.gAbs_int, FD.gGcd_int, FD.gIx_tup, FD.gIx_lst, FD.gIx_fls, FD.isi_int_int, FD.isi_int_bool, FD.isi_bool_int, FD.isi_bool_bool, FD.isi_tup, FD.isi_lst, List.map_cons, List.map_nil, List.length_cons, List.length_nil, List.cons_append, List.nil_append, List.set_cons_zero, List.set_cons_succ, List.getElem?_cons_zero, List.getElem?_cons_succ, Nat.reduceAdd, Nat.reduceSub, Nat.zero_add, Nat.sub_self, List.replicate_zero, List.replicate_succ, Nat.reduceLeDiff, if_true, if_false, Bool.false_eq_true, Bool.not_true, Bool.not_false, decide_eq_true_eq, hz, hb0]
/-! ### the greatest common divisor -/
theorem shared_loop : ∀ (h : Nat) (ds : List Dt) (a b : Nat) (t r : Option Lo), b < 2 ^ h → 2 * h + 1 ≤ ds.length → ∃ ρ, forD (uName 2) (sSeq (sIf (t2 (eVar 1) (eC (.int 0)) eqD) (sRet (eVar 0)) sNext)
    (sSeq (sSet 3 (e2 (eB gInt (aCons (eVar 0) aNil)) (eVar 1) (gI nzB Int.fmod)) []) (sSeq (sSet 0 (eVar 1) [1]) (sSet 1 (eVar 3) [3])))) ds [some (.sh (.int a)), some (.sh (.int b)), t, r] = .ok (.rt (.int (Nat.gcd a b))) ρ
  | _, [], _, _, _, _, _, h => by simp at h
  | h, d :: ds, a, b, t, r, hb, hd => by
    by_cases h0 : b = 0
    · subst h0
      refine ⟨?z, ?h⟩
      case h =>
        simp only [FD.sSeq_ap, FD.sNext_ap, FD.sBrk_ap, FD.sCont_ap, FD.sIf_ap, FD.sSet_ap, FD.sSetL_ap, FD.sDrop_ap, FD.sRet_ap, FD.sRetN_ap, FD.sFor_ap, FD.sAsg_ap, FD.sRaise_ap, FD.sAppend_ap, FD.sSetIx_ap, FD.eC_ap, FD.eVar_0, FD.eVar_s, FD.e1_ap, FD.e2_ap, FD.t1_ap, FD.t2_ap, FD.eT_ap, FD.tAnd_ap, FD.tOr_ap, FD.tNot_ap, FD.eIf_ap, FD.aNil_ap, FD.aCons_ap, FD.eTup_ap, FD.lLst_ap, FD.eL_ap, FD.eB_ap, FD.eCallR_ap, FD.eAnd_ap, FD.eOr_ap, FD.eNot_ap, FD.eChain_ap, FD.oSeq_ap, FD.oRange_ap, FD.oNone_ap, FD.oInt_ap, FD.lCut_ap, FD.gCutL_lst, FD.gCutL_fls, FD.frzD_int, FD.frzD_bl, FD.frzD_str, FD.frzD_non, FD.frzD_nil, FD.frzD_lst, FD.frzD_fls, FD.outS_nx, FD.outS_rt, FD.outS_exc, FD.runD_eq, FD.Out.bind_ok, FD.Out.bind_exc, FD.Out.bind_bad, FD.stE_ok, FD.stE_exc, FD.stE_bad, FD.andThen_nx, FD.andThen_bk, FD.andThen_ct, FD.andThen_rt, FD.andThen_exc, FD.andThen_bad, FD.ofO_some, FD.ofO_none, FD.Lo.d_sh, FD.Lo.d_ol, FD.Lo.d_od, FD.frz_nil, FD.frz_cons, FD.frz1_0, FD.frz1_n, FD.frz1_s, FD.uName_ap, FD.uTup_ap, FD.uCons_ap, FD.uNil_ap, FD.turn_nx, FD.turn_ct, FD.turn_bk, FD.turn_rt, FD.turn_exc, FD.forD_nil, FD.forD_n, FD.atI_0, FD.atI_1, FD.atI_2, FD.atI_3, FD.unset_rt, FD.unset_nx, FD.unset_bk, FD.unset_ct, Option.bind_some, Option.map_some, FD.gI_int, FD.gI0_int, FD.cI_int, FD.gAdd_int, FD.gNeg_int, FD.eqD_int, FD.eqD_str, FD.eqD_bl, FD.eqD_non, FD.neg2_eq, FD.blD_bl, FD.truD_non, FD.truD_bl, FD.truD_int, FD.truD_tup, FD.truD_lst, FD.truD_fls, FD.truD_dic, FD.Dt.seq_tup, FD.Dt.seq_lst, FD.Dt.seq_fls, FD.gLen_tup, FD.gLen_lst, FD.gLen_fls, FD.gInt_int, FD.gInt_bl, FD.gAbs_int, FD.gGcd_int, FD.gIx_tup, FD.gIx_lst, FD.gIx_fls, FD.isi_int_int, FD.isi_int_bool, FD.isi_bool_int, FD.isi_bool_bool, FD.isi_tup, FD.isi_lst, List.map_cons, List.map_nil, List.length_cons, List.length_nil, List.cons_append, List.nil_append, List.set_cons_zero, List.set_cons_succ, List.getElem?_cons_zero, List.getElem?_cons_succ, Nat.reduceAdd, Nat.reduceSub, Nat.zero_add, Nat.sub_self, List.replicate_zero, List.replicate_succ, Nat.reduceLeDiff, if_true, if_false, Bool.false_eq_true, Bool.not_true, Bool.not_false, decide_eq_true_eq, Nat.gcd_zero_right, show (((0 : Nat) : Int) == 0) = true from rfl]
        rfl
    · have hb0 : (((b : Nat) : Int) == 0) = false := by
        have : ((b : Nat) : Int) ≠ 0 := by omega
        simpa using this
      have hbz : ((b : Nat) : Int) ≠ 0 := by omega
      have e1 : Int.fmod ((a : Nat) : Int) ((b : Nat) : Int) = ((a % b : Nat) : Int) := by rw [Int.fmod_eq_emod_of_nonneg _ (by omega)]; rfl
      match h, ds, hb, hd with
      | 0, _, hb, _ => omega
      | h + 1, [], hb, hd => simp at hd
      | h + 1, d2 :: ds, hb, hd =>
        by_cases h1 : a % b = 0
        · have h1' : (((a % b : Nat) : Int) == 0) = true := by rw [h1]; rfl
          have hg : Nat.gcd a b = b := by rw [Nat.gcd_comm, Nat.gcd_rec, h1, Nat.gcd_zero_left]
          refine ⟨[some (.sh (.int b)), some (.sh (.int ((a % b : Nat) : Int))), some (.sh d2), some (.sh (.int ((a % b : Nat) : Int)))], ?_⟩
          simp only [FD.sSeq_ap, FD.sNext_ap, FD.sBrk_ap, FD.sCont_ap, FD.sIf_ap, FD.sSet_ap, FD.sSetL_ap, FD.sDrop_ap, FD.sRet_ap, FD.sRetN_ap, FD.sFor_ap, FD.sAsg_ap, FD.sRaise_ap, FD.sAppend_ap, FD.sSetIx_ap, FD.eC_ap, FD.eVar_0, FD.eVar_s, FD.e1_ap, FD.e2_ap, FD.t1_ap, FD.t2_ap, FD.eT_ap, FD.tAnd_ap, FD.tOr_ap, FD.tNot_ap, FD.eIf_ap, FD.aNil_ap, FD.aCons_ap, FD.eTup_ap, FD.lLst_ap, FD.eL_ap, FD.eB_ap, FD.eCallR_ap, FD.eAnd_ap, FD.eOr_ap, FD.eNot_ap, FD.eChain_ap, FD.oSeq_ap, FD.oRange_ap, FD.oNone_ap, FD.oInt_ap, FD.lCut_ap, FD.gCutL_lst, FD.gCutL_fls, FD.frzD_int, FD.frzD_bl, FD.frzD_str, FD.frzD_non, FD.frzD_nil, FD.frzD_lst, FD.frzD_fls, FD.outS_nx, FD.outS_rt, FD.outS_exc, FD.runD_eq, FD.Out.bind_ok, FD.Out.bind_exc, FD.Out.bind_bad, FD.stE_ok, FD.stE_exc, FD.stE_bad, FD.andThen_nx, FD.andThen_bk, FD.andThen_ct, FD.andThen_rt, FD.andThen_exc, FD.andThen_bad, FD.ofO_some, FD.ofO_none, FD.Lo.d_sh, FD.Lo.d_ol, FD.Lo.d_od, FD.frz_nil, FD.frz_cons, FD.frz1_0, FD.frz1_n, FD.frz1_s, FD.uName_ap, FD.uTup_ap, FD.uCons_ap, FD.uNil_ap, FD.turn_nx, FD.turn_ct, FD.turn_bk, FD.turn_rt, FD.turn_exc, FD.forD_nil, FD.forD_n, FD.atI_0, FD.atI_1, FD.atI_2, FD.atI_3, FD.unset_rt, FD.unset_nx, FD.unset_bk, FD.unset_ct, Option.bind_some, Option.map_some, FD.gI_int, FD.gI0_int, FD.cI_int, FD.gAdd_int, FD.gNeg_int, FD.eqD_int, FD.eqD_str, FD.eqD_bl, FD.eqD_non, FD.neg2_eq, FD.blD_bl, FD.truD_non, FD.truD_bl, FD.truD_int, FD.truD_tup, FD.truD_lst, FD.truD_fls, FD.truD_dic, FD.Dt.seq_tup, FD.Dt.seq_lst, FD.Dt.seq_fls, FD.gLen_tup, FD.gLen_lst, FD.gLen_fls, FD.gInt_int, FD.gInt_bl, FD.gAbs_int, FD.gGcd_int, FD.gIx_tup, FD.gIx_lst, FD.gIx_fls, FD.isi_int_int, FD.isi_int_bool, FD.isi_bool_int, FD.isi_bool_bool, FD.isi_tup, FD.isi_lst, List.map_cons, List.map_nil, List.length_cons, List.length_nil, List.cons_append, List.nil_append, List.set_cons_zero, List.set_cons_succ, List.getElem?_cons_zero, List.getElem?_cons_succ, Nat.reduceAdd, Nat.reduceSub, Nat.zero_add, Nat.sub_self, List.replicate_zero, List.replicate_succ, Nat.reduceLeDiff, if_true, if_false, Bool.false_eq_true, Bool.not_true, Bool.not_false, decide_eq_true_eq, hb0, nzB_of hbz, e1, h1', hg]
        · have hr0 : (((a % b : Nat) : Int) == 0) = false := by
            have : ((a % b : Nat) : Int) ≠ 0 := by omega
            simpa using this
          have hrz : ((a % b : Nat) : Int) ≠ 0 := by omega
          have e2 : Int.fmod ((b : Nat) : Int) ((a % b : Nat) : Int) = ((b % (a % b) : Nat) : Int) := by rw [Int.fmod_eq_emod_of_nonneg _ (by omega)]; rfl
          have hlt : a % b < b := Nat.mod_lt _ (by omega)
          have hhalf : 2 * (b % (a % b)) < b := by
            have hm := Nat.mod_lt b (show 0 < a % b by omega)
            by_cases hq : 2 * (a % b) ≤ b
            · omega
            · have : b % (a % b) = b - a % b := by
                rw [Nat.mod_eq_sub_mod (by omega), Nat.mod_eq_of_lt (by omega)]
              omega
          obtain ⟨ρ, e⟩ := shared_loop h ds (a % b) (b % (a % b)) (some (.sh d2)) (some (.sh (.int ((b % (a % b) : Nat) : Int)))) (by rw [Nat.pow_succ] at hb; omega) (by simp only [List.length_cons] at hd; omega)
          refine ⟨ρ, ?_⟩
          simp only [FD.sSeq_ap, FD.sNext_ap, FD.sBrk_ap, FD.sCont_ap, FD.sIf_ap, FD.sSet_ap, FD.sSetL_ap, FD.sDrop_ap, FD.sRet_ap, FD.sRetN_ap, FD.sFor_ap, FD.sAsg_ap, FD.sRaise_ap, FD.sAppend_ap, FD.sSetIx_ap, FD.eC_ap, FD.eVar_0, FD.eVar_s, FD.e1_ap, FD.e2_ap, FD.t1_ap, FD.t2_ap, FD.eT_ap, FD.tAnd_ap, FD.tOr_ap, FD.tNot_ap, FD.eIf_ap, FD.aNil_ap, FD.aCons_ap, FD.eTup_ap, FD.lLst_ap, FD.eL_ap, FD.eB_ap, FD.eCallR_ap, FD.eAnd_ap, FD.eOr_ap, FD.eNot_ap, FD.eChain_ap, FD.oSeq_ap, FD.oRange_ap, FD.oNone_ap, FD.oInt_ap, FD.lCut_ap, FD.gCutL_lst, FD.gCutL_fls, FD.frzD_int, FD.frzD_bl, FD.frzD_str, FD.frzD_non, FD.frzD_nil, FD.frzD_lst, FD.frzD_fls, FD.outS_nx, FD.outS_rt, FD.outS_exc, FD.runD_eq, FD.Out.bind_ok, FD.Out.bind_exc, FD.Out.bind_bad, FD.stE_ok, FD.stE_exc, FD.stE_bad, FD.andThen_nx, FD.andThen_bk, FD.andThen_ct, FD.andThen_rt, FD.andThen_exc, FD.andThen_bad, FD.ofO_some, FD.ofO_none, FD.Lo.d_sh, FD.Lo.d_ol, FD.Lo.d_od, FD.frz_nil, FD.frz_cons, FD.frz1_0, FD.frz1_n, FD.frz1_s, FD.uName_ap, FD.uTup_ap, FD.uCons_ap, FD.uNil_ap, FD.turn_nx, FD.turn_ct, FD.turn_bk, FD.turn_rt, FD.turn_exc, FD.forD_nil, FD.forD_n, FD.atI_0, FD.atI_1, FD.atI_2, FD.atI_3, FD.unset_rt, FD.unset_nx, FD.unset_bk, FD.unset_ct, Option.bind_some, Option.map_some, FD.gI_int, FD.gI0_int, FD.cI_int, FD.gAdd_int, FD.gNeg_int, FD.eqD_int, FD.eqD_str, FD.eqD_bl, FD.eqD_non, FD.neg2_eq, FD.blD_bl, FD.truD_non, FD.truD_bl, FD.truD_int, FD.truD_tup, FD.truD_lst, FD.truD_fls, FD.truD_dic, FD.Dt.seq_tup, FD.Dt.seq_lst, FD.Dt.seq_fls, FD.gLen_tup, FD.gLen_lst, FD.gLen_fls, FD.gInt_int, FD.gInt_bl, FD.gAbs_int, FD.gGcd_int, FD.gIx_tup, FD.gIx_lst, FD.gIx_fls, FD.isi_int_int, FD.isi_int_bool, FD.isi_bool_int, FD.isi_bool_bool, FD.isi_tup, FD.isi_lst, List.map_cons, List.map_nil, List.length_cons, List.length_nil, List.cons_append, List.nil_append, List.set_cons_zero, List.set_cons_succ, List.getElem?_cons_zero, List.getElem?_cons_succ, Nat.reduceAdd, Nat.reduceSub, Nat.zero_add, Nat.sub_self, List.replicate_zero, List.replicate_succ, Nat.reduceLeDiff, if_true, if_false, Bool.false_eq_true, Bool.not_true, Bool.not_false, decide_eq_true_eq, hb0, nzB_of hbz, e1, hr0, nzB_of hrz, e2]
          rw [e]
          have g1 : Nat.gcd a b = Nat.gcd (a % b) (b % (a % b)) := by
            rw [Nat.gcd_comm a b, Nat.gcd_rec b a, Nat.gcd_rec (a % b) b, Nat.gcd_comm]
          rw [g1]
theorem e_shared {a b : Int} (hb : Bd 440 b) : m__law_shared K cs [.int a, .int b] = .ok (.int ((Nat.gcd a.natAbs b.natAbs : Nat) : Int)) := by
  unfold m__law_shared argN b__law_shared
  have ea : ∀ i : Int, (if i < 0 then -i else i) = ((i.natAbs : Nat) : Int) := fun i => by split <;> omega
  obtain ⟨ρ, e⟩ := shared_loop 440 (rngD 0 900) a.natAbs b.natAbs none none hb (by rw [rngD_length]; decide)
  have sB : smallB 900 = true := by decide
  have hn : Int.toNat 900 = 900 := rfl
  simp only [FD.sSeq_ap, FD.sNext_ap, FD.sBrk_ap, FD.sCont_ap, FD.sIf_ap, FD.sSet_ap, FD.sSetL_ap, FD.sDrop_ap, FD.sRet_ap, FD.sRetN_ap, FD.sFor_ap, FD.sAsg_ap, FD.sRaise_ap, FD.sAppend_ap, FD.sSetIx_ap, FD.eC_ap, FD.eVar_0, FD.eVar_s, FD.e1_ap, FD.e2_ap, FD.t1_ap, FD.t2_ap, FD.eT_ap, FD.tAnd_ap, FD.tOr_ap, FD.tNot_ap, FD.eIf_ap, FD.aNil_ap, FD.aCons_ap, FD.eTup_ap, FD.lLst_ap, FD.eL_ap, FD.eB_ap, FD.eCallR_ap, FD.eAnd_ap, FD.eOr_ap, FD.eNot_ap, FD.eChain_ap, FD.oSeq_ap, FD.oRange_ap, FD.oNone_ap, FD.oInt_ap, FD.lCut_ap, FD.gCutL_lst, FD.gCutL_fls, FD.frzD_int, FD.frzD_bl, FD.frzD_str, FD.frzD_non, FD.frzD_nil, FD.frzD_lst, FD.frzD_fls, FD.outS_nx, FD.outS_rt, FD.outS_exc, FD.runD_eq, FD.Out.bind_ok, FD.Out.bind_exc, FD.Out.bind_bad, FD.stE_ok, FD.stE_exc, FD.stE_bad, FD.andThen_nx, FD.andThen_bk, FD.andThen_ct, FD.andThen_rt, FD.andThen_exc, FD.andThen_bad, FD.ofO_some, FD.ofO_none, FD.Lo.d_sh, FD.Lo.d_ol, FD.Lo.d_od, FD.frz_nil, FD.frz_cons, FD.frz1_0, FD.frz1_n, FD.frz1_s, FD.uName_ap, FD.uTup_ap, FD.uCons_ap, FD.uNil_ap, FD.turn_nx, FD.turn_ct, FD.turn_bk, FD.turn_rt, FD.turn_exc, FD.forD_nil, FD.forD_n, FD.atI_0, FD.atI_1, FD.atI_2, FD.atI_3, FD.unset_rt, FD.unset_nx, FD.unset_bk, FD.unset_ct, Option.bind_some, Option.map_some, FD.gI_int, FD.gI0_int, FD.cI_int, FD.gAdd_int, FD.gNeg_int, FD.eqD_int, FD.eqD_str, FD.eqD_bl, FD.eqD_non, FD.neg2_eq, FD.blD_bl, FD.truD_non, FD.truD_bl, FD.truD_int, FD.truD_tup, FD.truD_lst, FD.truD_fls, FD.truD_dic, FD.Dt.seq_tup, FD.Dt.seq_lst, FD.Dt.seq_fls, FD.gLen_tup, FD.gLen_lst, FD.gLen_fls, FD.gInt_int, FD.gInt_bl, FD.gAbs_int, FD.gGcd_int, FD.gIx_tup, FD.gIx_lst, FD.gIx_fls, FD.isi_int_int, FD.isi_int_bool, FD.isi_bool_int, FD.isi_bool_bool, FD.isi_tup, FD.isi_lst, List.map_cons, List.map_nil, List.length_cons, List.length_nil, List.cons_append, List.nil_append, List.set_cons_zero, List.set_cons_succ, List.getElem?_cons_zero, List.getElem?_cons_succ, Nat.reduceAdd, Nat.reduceSub, Nat.zero_add, Nat.sub_self, List.replicate_zero, List.replicate_succ, Nat.reduceLeDiff, if_true, if_false, Bool.false_eq_true, Bool.not_true, Bool.not_false, decide_eq_true_eq, ea, oRng_1, sB, hn, e]
/-! ### fractions in lowest terms -/
def fr (q : Rat) : Dt := .tup [.int q.num, .int (q.den : Int)]
theorem ix0 (q : Rat) : gIx (fr q) (.int 0) = some (.int q.num) := rfl
theorem ix1 (q : Rat) : gIx (fr q) (.int 1) = some (.int q.den) := rfl
theorem len_fr (q : Rat) : gLen [fr q] = some (.int 2) := rfl
theorem isi_fr (q : Rat) : gIsi [fr q, .ty "tuple"] = some (.bl true) := isi_tup _
theorem frz_fr (q : Rat) (lk : List Nat) (ρ : FD.Env) : frzD (fr q) lk ρ = ρ := frzD_pure rfl
theorem fr_of {n d : Int} (hd : d ≠ 0) (g : Int) (hg : g = if d < 0 then -((Nat.gcd n.natAbs d.natAbs : Nat) : Int) else ((Nat.gcd n.natAbs d.natAbs : Nat) : Int)) : n.fdiv g = (Rat.divInt n d).num ∧ d.fdiv g = ((Rat.divInt n d).den : Int) := by
  have dn : ((Nat.gcd n.natAbs d.natAbs : Nat) : Int) ∣ n := Int.ofNat_dvd_left.mpr (Nat.gcd_dvd_left _ _)
  have dd : ((Nat.gcd n.natAbs d.natAbs : Nat) : Int) ∣ d := Int.ofNat_dvd_left.mpr (Nat.gcd_dvd_right _ _)
  have gp : 0 < Nat.gcd n.natAbs d.natAbs := Nat.gcd_pos_of_pos_right _ (by omega)
  have eg : d.gcd n = Nat.gcd n.natAbs d.natAbs := by rw [Int.gcd_comm]; rfl
  rw [Rat.num_divInt, Rat.den_divInt, if_neg hd, eg]
  by_cases h : d < 0
  · rw [if_pos h] at hg
    subst hg
    have n1 : n.fdiv (-((Nat.gcd n.natAbs d.natAbs : Nat) : Int)) = -(n / ((Nat.gcd n.natAbs d.natAbs : Nat) : Int)) := by
      rw [Int.fdiv_eq_ediv_of_dvd (Int.neg_dvd.mpr dn), Int.ediv_neg]
    have d1 : d.fdiv (-((Nat.gcd n.natAbs d.natAbs : Nat) : Int)) = -(d / ((Nat.gcd n.natAbs d.natAbs : Nat) : Int)) := by
      rw [Int.fdiv_eq_ediv_of_dvd (Int.neg_dvd.mpr dd), Int.ediv_neg]
    rw [n1, d1, Int.sign_eq_neg_one_of_neg h]
    constructor
    · rw [Int.neg_one_mul, Int.neg_ediv_of_dvd dn]
    · rw [Int.natCast_ediv, ← Int.neg_ediv_of_dvd dd]
      congr 1
      omega
  · rw [if_neg h] at hg
    subst hg
    rw [Int.fdiv_eq_ediv_of_dvd dn, Int.fdiv_eq_ediv_of_dvd dd, Int.sign_eq_one_of_pos (by omega), Int.one_mul]
    refine ⟨rfl, ?_⟩
    rw [Int.natCast_ediv]
    congr 1
    omega
theorem gcd_bd {n d : Int} {m : Nat} (hd : d ≠ 0) (h : Bd m d) : Bd m ((Nat.gcd n.natAbs d.natAbs : Nat) : Int) ∧ ((Nat.gcd n.natAbs d.natAbs : Nat) : Int) ≠ 0 := by
  have gp : 0 < Nat.gcd n.natAbs d.natAbs := Nat.gcd_pos_of_pos_right _ (by omega)
  have gl : Nat.gcd n.natAbs d.natAbs ≤ d.natAbs := Nat.le_of_dvd (by omega) (Nat.gcd_dvd_right _ _)
  exact ⟨h.le (by rw [Int.natAbs_natCast]; exact gl), by omega⟩
theorem e_lowest {n d : Int} (hd : d ≠ 0) (hb : Bd 440 d) : m__law_lowest K cs [.int n, .int d] = .ok (fr (Rat.divInt n d)) := by
  unfold m__law_lowest argN b__law_lowest
  obtain ⟨gb, g0⟩ := gcd_bd (n := n) hd hb
  by_cases h : d < 0
  · obtain ⟨e1, e2⟩ := fr_of (n := n) hd _ (if_pos h).symm
    have q : ∀ i, divB i (-((Nat.gcd n.natAbs d.natAbs : Nat) : Int)) = true := fun i => divB_of (by omega) gb.neg (by decide)
    simp only [FD.sSeq_ap, FD.sNext_ap, FD.sBrk_ap, FD.sCont_ap, FD.sIf_ap, FD.sSet_ap, FD.sSetL_ap, FD.sDrop_ap, FD.sRet_ap, FD.sRetN_ap, FD.sFor_ap, FD.sAsg_ap, FD.sRaise_ap, FD.sAppend_ap, FD.sSetIx_ap, FD.eC_ap, FD.eVar_0, FD.eVar_s, FD.e1_ap, FD.e2_ap, FD.t1_ap, FD.t2_ap, FD.eT_ap, FD.tAnd_ap, FD.tOr_ap, FD.tNot_ap, FD.eIf_ap, FD.aNil_ap, FD.aCons_ap, FD.eTup_ap, FD.lLst_ap, FD.eL_ap, FD.eB_ap, FD.eCallR_ap, FD.eAnd_ap, FD.eOr_ap, FD.eNot_ap, FD.eChain_ap, FD.oSeq_ap, FD.oRange_ap, FD.oNone_ap, FD.oInt_ap, FD.lCut_ap, FD.gCutL_lst, FD.gCutL_fls, FD.frzD_int, FD.frzD_bl, FD.frzD_str, FD.frzD_non, FD.frzD_nil, FD.frzD_lst, FD.frzD_fls, FD.outS_nx, FD.outS_rt, FD.outS_exc, FD.runD_eq, FD.Out.bind_ok, FD.Out.bind_exc, FD.Out.bind_bad, FD.stE_ok, FD.stE_exc, FD.stE_bad, FD.andThen_nx, FD.andThen_bk, FD.andThen_ct, FD.andThen_rt, FD.andThen_exc, FD.andThen_bad, FD.ofO_some, FD.ofO_none, FD.Lo.d_sh, FD.Lo.d_ol, FD.Lo.d_od, FD.frz_nil, FD.frz_cons, FD.frz1_0, FD.frz1_n, FD.frz1_s, FD.uName_ap, FD.uTup_ap, FD.uCons_ap, FD.uNil_ap, FD.turn_nx, FD.turn_ct, FD.turn_bk, FD.turn_rt, FD.turn_exc, FD.forD_nil, FD.forD_n, FD.atI_0, FD.atI_1, FD.atI_2, FD.atI_3, FD.unset_rt, FD.unset_nx, FD.unset_bk, FD.unset_ct, Option.bind_some, Option.map_some, FD.gI_int, FD.gI0_int, FD.cI_int, FD.gAdd_int, FD.gNeg_int, FD.eqD_int, FD.eqD_str, FD.eqD_bl, FD.eqD_non, FD.neg2_eq, FD.blD_bl, FD.truD_non, FD.truD_bl, FD.truD_int, FD.truD_tup, FD.truD_lst, FD.truD_fls, FD.truD_dic, FD.Dt.seq_tup, FD.Dt.seq_lst, FD.Dt.seq_fls, FD.gLen_tup, FD.gLen_lst, FD.gLen_fls, FD.gInt_int, FD.gInt_bl, FD.gAbs_int, FD.gGcd_int, FD.gIx_tup, FD.gIx_lst, FD.gIx_fls, FD.isi_int_int, FD.isi_int_bool, FD.isi_bool_int, FD.isi_bool_bool, FD.isi_tup, FD.isi_lst, List.map_cons, List.map_nil, List.length_cons, List.length_nil, List.cons_append, List.nil_append, List.set_cons_zero, List.set_cons_succ, List.getElem?_cons_zero, List.getElem?_cons_succ, Nat.reduceAdd, Nat.reduceSub, Nat.zero_add, Nat.sub_self, List.replicate_zero, List.replicate_succ, Nat.reduceLeDiff, if_true, if_false, Bool.false_eq_true, Bool.not_true, Bool.not_false, decide_eq_true_eq, e_shared hb, h, q, e1, e2]
    rfl
  · obtain ⟨e1, e2⟩ := fr_of (n := n) hd _ (if_neg h).symm
    have q : ∀ i, divB i ((Nat.gcd n.natAbs d.natAbs : Nat) : Int) = true := fun i => divB_of g0 gb (by decide)
    simp only [FD.sSeq_ap, FD.sNext_ap, FD.sBrk_ap, FD.sCont_ap, FD.sIf_ap, FD.sSet_ap, FD.sSetL_ap, FD.sDrop_ap, FD.sRet_ap, FD.sRetN_ap, FD.sFor_ap, FD.sAsg_ap, FD.sRaise_ap, FD.sAppend_ap, FD.sSetIx_ap, FD.eC_ap, FD.eVar_0, FD.eVar_s, FD.e1_ap, FD.e2_ap, FD.t1_ap, FD.t2_ap, FD.eT_ap, FD.tAnd_ap, FD.tOr_ap, FD.tNot_ap, FD.eIf_ap, FD.aNil_ap, FD.aCons_ap, FD.eTup_ap, FD.lLst_ap, FD.eL_ap, FD.eB_ap, FD.eCallR_ap, FD.eAnd_ap, FD.eOr_ap, FD.eNot_ap, FD.eChain_ap, FD.oSeq_ap, FD.oRange_ap, FD.oNone_ap, FD.oInt_ap, FD.lCut_ap, FD.gCutL_lst, FD.gCutL_fls, FD.frzD_int, FD.frzD_bl, FD.frzD_str, FD.frzD_non, FD.frzD_nil, FD.frzD_lst, FD.frzD_fls, FD.outS_nx, FD.outS_rt, FD.outS_exc, FD.runD_eq, FD.Out.bind_ok, FD.Out.bind_exc, FD.Out.bind_bad, FD.stE_ok, FD.stE_exc, FD.stE_bad, FD.andThen_nx, FD.andThen_bk, FD.andThen_ct, FD.andThen_rt, FD.andThen_exc, FD.andThen_bad, FD.ofO_some, FD.ofO_none, FD.Lo.d_sh, FD.Lo.d_ol, FD.Lo.d_od, FD.frz_nil, FD.frz_cons, FD.frz1_0, FD.frz1_n, FD.frz1_s, FD.uName_ap, FD.uTup_ap, FD.uCons_ap, FD.uNil_ap, FD.turn_nx, FD.turn_ct, FD.turn_bk, FD.turn_rt, FD.turn_exc, FD.forD_nil, FD.forD_n, FD.atI_0, FD.atI_1, FD.atI_2, FD.atI_3, FD.unset_rt, FD.unset_nx, FD.unset_bk, FD.unset_ct, Option.bind_some, Option.map_some, FD.gI_int, FD.gI0_int, FD.cI_int, FD.gAdd_int, FD.gNeg_int, FD.eqD_int, FD.eqD_str, FD.eqD_bl, FD.eqD_non, FD.neg2_eq, FD.blD_bl, FD.truD_non, FD.truD_bl, FD.truD_int, FD.truD_tup, FD.truD_lst, FD.truD_fls, FD.truD_dic, FD.Dt.seq_tup, FD.Dt.seq_lst, FD.Dt.seq_fls, FD.gLen_tup, FD.gLen_lst, FD.gLen_fls, FD.gInt_int, FD.gInt_bl, FD.gAbs_int, FD.gGcd_int, FD.gIx_tup, FD.gIx_lst, FD.gIx_fls, FD.isi_int_int, FD.isi_int_bool, FD.isi_bool_int, FD.isi_bool_bool, FD.isi_tup, FD.isi_lst, List.map_cons, List.map_nil, List.length_cons, List.length_nil, List.cons_append, List.nil_append, List.set_cons_zero, List.set_cons_succ, List.getElem?_cons_zero, List.getElem?_cons_succ, Nat.reduceAdd, Nat.reduceSub, Nat.zero_add, Nat.sub_self, List.replicate_zero, List.replicate_succ, Nat.reduceLeDiff, if_true, if_false, Bool.false_eq_true, Bool.not_true, Bool.not_false, decide_eq_true_eq, e_shared hb, h, q, e1, e2]
    rfl
theorem e_exact {n d : Int} (hd : d ≠ 0) (hb : Bd 8000 d) : m_exact K cs [.int n, .int d] = .ok (fr (Rat.divInt n d)) := by
  unfold m_exact argD b_exact
  obtain ⟨gb, g0⟩ := gcd_bd (n := n) hd hb
  have hd0 : (d == 0) = false := by simpa using hd
  by_cases h : d < 0
  · obtain ⟨e1, e2⟩ := fr_of (n := n) hd _ (if_pos h).symm
    have q : ∀ i, divB i (-((Nat.gcd n.natAbs d.natAbs : Nat) : Int)) = true := fun i => divB_of (by omega) gb.neg (by decide)
    simp only [FD.sSeq_ap, FD.sNext_ap, FD.sBrk_ap, FD.sCont_ap, FD.sIf_ap, FD.sSet_ap, FD.sSetL_ap, FD.sDrop_ap, FD.sRet_ap, FD.sRetN_ap, FD.sFor_ap, FD.sAsg_ap, FD.sRaise_ap, FD.sAppend_ap, FD.sSetIx_ap, FD.eC_ap, FD.eVar_0, FD.eVar_s, FD.e1_ap, FD.e2_ap, FD.t1_ap, FD.t2_ap, FD.eT_ap, FD.tAnd_ap, FD.tOr_ap, FD.tNot_ap, FD.eIf_ap, FD.aNil_ap, FD.aCons_ap, FD.eTup_ap, FD.lLst_ap, FD.eL_ap, FD.eB_ap, FD.eCallR_ap, FD.eAnd_ap, FD.eOr_ap, FD.eNot_ap, FD.eChain_ap, FD.oSeq_ap, FD.oRange_ap, FD.oNone_ap, FD.oInt_ap, FD.lCut_ap, FD.gCutL_lst, FD.gCutL_fls, FD.frzD_int, FD.frzD_bl, FD.frzD_str, FD.frzD_non, FD.frzD_nil, FD.frzD_lst, FD.frzD_fls, FD.outS_nx, FD.outS_rt, FD.outS_exc, FD.runD_eq, FD.Out.bind_ok, FD.Out.bind_exc, FD.Out.bind_bad, FD.stE_ok, FD.stE_exc, FD.stE_bad, FD.andThen_nx, FD.andThen_bk, FD.andThen_ct, FD.andThen_rt, FD.andThen_exc, FD.andThen_bad, FD.ofO_some, FD.ofO_none, FD.Lo.d_sh, FD.Lo.d_ol, FD.Lo.d_od, FD.frz_nil, FD.frz_cons, FD.frz1_0, FD.frz1_n, FD.frz1_s, FD.uName_ap, FD.uTup_ap, FD.uCons_ap, FD.uNil_ap, FD.turn_nx, FD.turn_ct, FD.turn_bk, FD.turn_rt, FD.turn_exc, FD.forD_nil, FD.forD_n, FD.atI_0, FD.atI_1, FD.atI_2, FD.atI_3, FD.unset_rt, FD.unset_nx, FD.unset_bk, FD.unset_ct, Option.bind_some, Option.map_some, FD.gI_int, FD.gI0_int, FD.cI_int, FD.gAdd_int, FD.gNeg_int, FD.eqD_int, FD.eqD_str, FD.eqD_bl, FD.eqD_non, FD.neg2_eq, FD.blD_bl, FD.truD_non, FD.truD_bl, FD.truD_int, FD.truD_tup, FD.truD_lst, FD.truD_fls, FD.truD_dic, FD.Dt.seq_tup, FD.Dt.seq_lst, FD.Dt.seq_fls, FD.gLen_tup, FD.gLen_lst, FD.gLen_fls, FD.gInt_int, FD.gInt_bl, FD.gAbs_int, FD.gGcd_int, FD.gIx_tup, FD.gIx_lst, FD.gIx_fls, FD.isi_int_int, FD.isi_int_bool, FD.isi_bool_int, FD.isi_bool_bool, FD.isi_tup, FD.isi_lst, List.map_cons, List.map_nil, List.length_cons, List.length_nil, List.cons_append, List.nil_append, List.set_cons_zero, List.set_cons_succ, List.getElem?_cons_zero, List.getElem?_cons_succ, Nat.reduceAdd, Nat.reduceSub, Nat.zero_add, Nat.sub_self, List.replicate_zero, List.replicate_succ, Nat.reduceLeDiff, if_true, if_false, Bool.false_eq_true, Bool.not_true, Bool.not_false, decide_eq_true_eq, hd0, h, q, e1, e2, List.drop_succ_cons, List.drop_nil, List.append_nil, Nat.le_refl, and_self]
    rfl
  · obtain ⟨e1, e2⟩ := fr_of (n := n) hd _ (if_neg h).symm
    have q : ∀ i, divB i ((Nat.gcd n.natAbs d.natAbs : Nat) : Int) = true := fun i => divB_of g0 gb (by decide)
    simp only [FD.sSeq_ap, FD.sNext_ap, FD.sBrk_ap, FD.sCont_ap, FD.sIf_ap, FD.sSet_ap, FD.sSetL_ap, FD.sDrop_ap, FD.sRet_ap, FD.sRetN_ap, FD.sFor_ap, FD.sAsg_ap, FD.sRaise_ap, FD.sAppend_ap, FD.sSetIx_ap, FD.eC_ap, FD.eVar_0, FD.eVar_s, FD.e1_ap, FD.e2_ap, FD.t1_ap, FD.t2_ap, FD.eT_ap, FD.tAnd_ap, FD.tOr_ap, FD.tNot_ap, FD.eIf_ap, FD.aNil_ap, FD.aCons_ap, FD.eTup_ap, FD.lLst_ap, FD.eL_ap, FD.eB_ap, FD.eCallR_ap, FD.eAnd_ap, FD.eOr_ap, FD.eNot_ap, FD.eChain_ap, FD.oSeq_ap, FD.oRange_ap, FD.oNone_ap, FD.oInt_ap, FD.lCut_ap, FD.gCutL_lst, FD.gCutL_fls, FD.frzD_int, FD.frzD_bl, FD.frzD_str, FD.frzD_non, FD.frzD_nil, FD.frzD_lst, FD.frzD_fls, FD.outS_nx, FD.outS_rt, FD.outS_exc, FD.runD_eq, FD.Out.bind_ok, FD.Out.bind_exc, FD.Out.bind_bad, FD.stE_ok, FD.stE_exc, FD.stE_bad, FD.andThen_nx, FD.andThen_bk, FD.andThen_ct, FD.andThen_rt, FD.andThen_exc, FD.andThen_bad, FD.ofO_some, FD.ofO_none, FD.Lo.d_sh, FD.Lo.d_ol, FD.Lo.d_od, FD.frz_nil, FD.frz_cons, FD.frz1_0, FD.frz1_n, FD.frz1_s, FD.uName_ap, FD.uTup_ap, FD.uCons_ap, FD.uNil_ap, FD.turn_nx, FD.turn_ct, FD.turn_bk, FD.turn_rt, FD.turn_exc, FD.forD_nil, FD.forD_n, FD.atI_0, FD.atI_1, FD.atI_2, FD.atI_3, FD.unset_rt, FD.unset_nx, FD.unset_bk, FD.unset_ct, Option.bind_some, Option.map_some, FD.gI_int, FD.gI0_int, FD.cI_int, FD.gAdd_int, FD.gNeg_int, FD.eqD_int, FD.eqD_str, FD.eqD_bl, FD.eqD_non, FD.neg2_eq, FD.blD_bl, FD.truD_non, FD.truD_bl, FD.truD_int, FD.truD_tup, FD.truD_lst, FD.truD_fls, FD.truD_dic, FD.Dt.seq_tup, FD.Dt.seq_lst, FD.Dt.seq_fls, FD.gLen_tup, FD.gLen_lst, FD.gLen_fls, FD.gInt_int, FD.gInt_bl, FD.gAbs_int, FD.gGcd_int, FD.gIx_tup, FD.gIx_lst, FD.gIx_fls, FD.isi_int_int, FD.isi_int_bool, FD.isi_bool_int, FD.isi_bool_bool, FD.isi_tup, FD.isi_lst, List.map_cons, List.map_nil, List.length_cons, List.length_nil, List.cons_append, List.nil_append, List.set_cons_zero, List.set_cons_succ, List.getElem?_cons_zero, List.getElem?_cons_succ, Nat.reduceAdd, Nat.reduceSub, Nat.zero_add, Nat.sub_self, List.replicate_zero, List.replicate_succ, Nat.reduceLeDiff, if_true, if_false, Bool.false_eq_true, Bool.not_true, Bool.not_false, decide_eq_true_eq, hd0, h, q, e1, e2, List.drop_succ_cons, List.drop_nil, List.append_nil, Nat.le_refl, and_self]
    rfl
theorem e_exact1 {n : Int} : m_exact K cs [.int n] = .ok (fr (Rat.divInt n 1)) := by
  have h := e_exact (K := K) (cs := cs) (n := n) (d := 1) (by decide) (show Bd 8000 1 from (show Bd 1 1 by unfold Bd; decide).mono (by decide))
  have e : m_exact K cs [.int n] = m_exact K cs [.int n, .int 1] := rfl
  rw [e, h]
theorem e_exact0 {n : Int} : m_exact K cs [.int n, .int 0] = .exc ⟨cs.c_ZeroDenominator, []⟩ := by
  unfold m_exact argD b_exact
  simp only [FD.sSeq_ap, FD.sNext_ap, FD.sBrk_ap, FD.sCont_ap, FD.sIf_ap, FD.sSet_ap, FD.sSetL_ap, FD.sDrop_ap, FD.sRet_ap, FD.sRetN_ap, FD.sFor_ap, FD.sAsg_ap, FD.sRaise_ap, FD.sAppend_ap, FD.sSetIx_ap, FD.eC_ap, FD.eVar_0, FD.eVar_s, FD.e1_ap, FD.e2_ap, FD.t1_ap, FD.t2_ap, FD.eT_ap, FD.tAnd_ap, FD.tOr_ap, FD.tNot_ap, FD.eIf_ap, FD.aNil_ap, FD.aCons_ap, FD.eTup_ap, FD.lLst_ap, FD.eL_ap, FD.eB_ap, FD.eCallR_ap, FD.eAnd_ap, FD.eOr_ap, FD.eNot_ap, FD.eChain_ap, FD.oSeq_ap, FD.oRange_ap, FD.oNone_ap, FD.oInt_ap, FD.lCut_ap, FD.gCutL_lst, FD.gCutL_fls, FD.frzD_int, FD.frzD_bl, FD.frzD_str, FD.frzD_non, FD.frzD_nil, FD.frzD_lst, FD.frzD_fls, FD.outS_nx, FD.outS_rt, FD.outS_exc, FD.runD_eq, FD.Out.bind_ok, FD.Out.bind_exc, FD.Out.bind_bad, FD.stE_ok, FD.stE_exc, FD.stE_bad, FD.andThen_nx, FD.andThen_bk, FD.andThen_ct, FD.andThen_rt, FD.andThen_exc, FD.andThen_bad, FD.ofO_some, FD.ofO_none, FD.Lo.d_sh, FD.Lo.d_ol, FD.Lo.d_od, FD.frz_nil, FD.frz_cons, FD.frz1_0, FD.frz1_n, FD.frz1_s, FD.uName_ap, FD.uTup_ap, FD.uCons_ap, FD.uNil_ap, FD.turn_nx, FD.turn_ct, FD.turn_bk, FD.turn_rt, FD.turn_exc, FD.forD_nil, FD.forD_n, FD.atI_0, FD.atI_1, FD.atI_2, FD.atI_3, FD.unset_rt, FD.unset_nx, FD.unset_bk, FD.unset_ct, Option.bind_some, Option.map_some, FD.gI_int, FD.gI0_int, FD.cI_int, FD.gAdd_int, FD.gNeg_int, FD.eqD_int, FD.eqD_str, FD.eqD_bl, FD.eqD_non, FD.neg2_eq, FD.blD_bl, FD.truD_non, FD.truD_bl, FD.truD_int, FD.truD_tup, FD.truD_lst, FD.truD_fls, FD.truD_dic, FD.Dt.seq_tup, FD.Dt.seq_lst, FD.Dt.seq_fls, FD.gLen_tup, FD.gLen_lst, FD.gLen_fls, FD.gInt_int, FD.gInt_bl, FD.gAbs_int, FD.gGcd_int, FD.gIx_tup, FD.gIx_lst, FD.gIx_fls, FD.isi_int_int, FD.isi_int_bool, FD.isi_bool_int, FD.isi_bool_bool, FD.isi_tup, FD.isi_lst, List.map_cons, List.map_nil, List.length_cons, List.length_nil, List.cons_append, List.nil_append, List.set_cons_zero, List.set_cons_succ, List.getElem?_cons_zero, List.getElem?_cons_succ, Nat.reduceAdd, Nat.reduceSub, Nat.zero_add, Nat.sub_self, List.replicate_zero, List.replicate_succ, Nat.reduceLeDiff, if_true, if_false, Bool.false_eq_true, Bool.not_true, Bool.not_false, decide_eq_true_eq, beq_self_eq_true, List.drop_succ_cons, List.drop_nil, List.append_nil, Nat.le_refl, and_self]
  rfl
theorem e_is_integer {i : Int} : m__law_is_integer K cs [.int i] = .ok (.bl true) := by
  unfold m__law_is_integer argN b__law_is_integer
  simp only [FD.sSeq_ap, FD.sNext_ap, FD.sBrk_ap, FD.sCont_ap, FD.sIf_ap, FD.sSet_ap, FD.sSetL_ap, FD.sDrop_ap, FD.sRet_ap, FD.sRetN_ap, FD.sFor_ap, FD.sAsg_ap, FD.sRaise_ap, FD.sAppend_ap, FD.sSetIx_ap, FD.eC_ap, FD.eVar_0, FD.eVar_s, FD.e1_ap, FD.e2_ap, FD.t1_ap, FD.t2_ap, FD.eT_ap, FD.tAnd_ap, FD.tOr_ap, FD.tNot_ap, FD.eIf_ap, FD.aNil_ap, FD.aCons_ap, FD.eTup_ap, FD.lLst_ap, FD.eL_ap, FD.eB_ap, FD.eCallR_ap, FD.eAnd_ap, FD.eOr_ap, FD.eNot_ap, FD.eChain_ap, FD.oSeq_ap, FD.oRange_ap, FD.oNone_ap, FD.oInt_ap, FD.lCut_ap, FD.gCutL_lst, FD.gCutL_fls, FD.frzD_int, FD.frzD_bl, FD.frzD_str, FD.frzD_non, FD.frzD_nil, FD.frzD_lst, FD.frzD_fls, FD.outS_nx, FD.outS_rt, FD.outS_exc, FD.runD_eq, FD.Out.bind_ok, FD.Out.bind_exc, FD.Out.bind_bad, FD.stE_ok, FD.stE_exc, FD.stE_bad, FD.andThen_nx, FD.andThen_bk, FD.andThen_ct, FD.andThen_rt, FD.andThen_exc, FD.andThen_bad, FD.ofO_some, FD.ofO_none, FD.Lo.d_sh, FD.Lo.d_ol, FD.Lo.d_od, FD.frz_nil, FD.frz_cons, FD.frz1_0, FD.frz1_n, FD.frz1_s, FD.uName_ap, FD.uTup_ap, FD.uCons_ap, FD.uNil_ap, FD.turn_nx, FD.turn_ct, FD.turn_bk, FD.turn_rt, FD.turn_exc, FD.forD_nil, FD.forD_n, FD.atI_0, FD.atI_1, FD.atI_2, FD.atI_3, FD.unset_rt, FD.unset_nx, FD.unset_bk, FD.unset_ct, Option.bind_some, Option.map_some, FD.gI_int, FD.gI0_int, FD.cI_int, FD.gAdd_int, FD.gNeg_int, FD.eqD_int, FD.eqD_str, FD.eqD_bl, FD.eqD_non, FD.neg2_eq, FD.blD_bl, FD.truD_non, FD.truD_bl, FD.truD_int, FD.truD_tup, FD.truD_lst, FD.truD_fls, FD.truD_dic, FD.Dt.seq_tup, FD.Dt.seq_lst, FD.Dt.seq_fls, FD.gLen_tup, FD.gLen_lst, FD.gLen_fls, FD.gInt_int, FD.gInt_bl, FD.gAbs_int, FD.gGcd_int, FD.gIx_tup, FD.gIx_lst, FD.gIx_fls, FD.isi_int_int, FD.isi_int_bool, FD.isi_bool_int, FD.isi_bool_bool, FD.isi_tup, FD.isi_lst, List.map_cons, List.map_nil, List.length_cons, List.length_nil, List.cons_append, List.nil_append, List.set_cons_zero, List.set_cons_succ, List.getElem?_cons_zero, List.getElem?_cons_succ, Nat.reduceAdd, Nat.reduceSub, Nat.zero_add, Nat.sub_self, List.replicate_zero, List.replicate_succ, Nat.reduceLeDiff, if_true, if_false, Bool.false_eq_true, Bool.not_true, Bool.not_false, decide_eq_true_eq]
/-- the numerator, the denominator of n / d are no greater -/
theorem num_le (n : Int) {d : Int} (hd : d ≠ 0) : (Rat.divInt n d).num.natAbs ≤ n.natAbs := by
  rw [Rat.num_divInt]
  have h1 : (d.sign * n / ((d.gcd n : Nat) : Int)).natAbs ≤ (d.sign * n).natAbs := by
    rw [Int.natAbs_ediv_of_dvd]
    · exact Nat.div_le_self _ _
    · exact Int.dvd_mul_of_dvd_right (Int.gcd_dvd_right ..)
  rw [Int.natAbs_mul, Int.natAbs_sign_of_ne_zero hd, Nat.one_mul] at h1
  exact h1
theorem den_le (n : Int) {d : Int} (hd : d ≠ 0) : (Rat.divInt n d).den ≤ d.natAbs := by
  rw [Rat.den_divInt, if_neg hd]
  exact Nat.div_le_self _ _
theorem e_right {q : Rat} {n d : Int} (h : q = Rat.divInt n d) (hd : d ≠ 0) (hn : Bd 9000 n) (hb : Bd 440 d) : m__law_right K cs [fr q, .int n, .int d] = .ok (.bl true) := by
  unfold m__law_right argN b__law_right
  have qn : Bd 9000 q.num := hn.le (by rw [h]; exact num_le n hd)
  have qd : Bd 440 (q.den : Int) := hb.le (by rw [h]; exact den_le n hd)
  have m1 : mulB q.num d = true := mulB_of qn hb (by decide)
  have m2 : mulB n (q.den : Int) = true := mulB_of hn qd (by decide)
  have g1 : (1 : Int) ≤ (q.den : Int) := by have := q.den_pos; omega
  have e : (q.num * d == n * (q.den : Int)) = true := by
    have hq : Rat.divInt q.num q.den = Rat.divInt n d := by rw [Rat.num_divInt_den, h]
    have := (Rat.divInt_eq_divInt_iff (by have := q.den_pos; omega) hd).mp hq
    exact beq_iff_eq.mpr this
  have eg : ((Nat.gcd q.num.natAbs (q.den : Int).natAbs : Nat) : Int) = 1 := by
    rw [Int.natAbs_natCast, q.reduced]
    rfl
  have n2 : neD (.int 2) (.int 2) = some false := rfl
  simp only [FD.sSeq_ap, FD.sNext_ap, FD.sBrk_ap, FD.sCont_ap, FD.sIf_ap, FD.sSet_ap, FD.sSetL_ap, FD.sDrop_ap, FD.sRet_ap, FD.sRetN_ap, FD.sFor_ap, FD.sAsg_ap, FD.sRaise_ap, FD.sAppend_ap, FD.sSetIx_ap, FD.eC_ap, FD.eVar_0, FD.eVar_s, FD.e1_ap, FD.e2_ap, FD.t1_ap, FD.t2_ap, FD.eT_ap, FD.tAnd_ap, FD.tOr_ap, FD.tNot_ap, FD.eIf_ap, FD.aNil_ap, FD.aCons_ap, FD.eTup_ap, FD.lLst_ap, FD.eL_ap, FD.eB_ap, FD.eCallR_ap, FD.eAnd_ap, FD.eOr_ap, FD.eNot_ap, FD.eChain_ap, FD.oSeq_ap, FD.oRange_ap, FD.oNone_ap, FD.oInt_ap, FD.lCut_ap, FD.gCutL_lst, FD.gCutL_fls, FD.frzD_int, FD.frzD_bl, FD.frzD_str, FD.frzD_non, FD.frzD_nil, FD.frzD_lst, FD.frzD_fls, FD.outS_nx, FD.outS_rt, FD.outS_exc, FD.runD_eq, FD.Out.bind_ok, FD.Out.bind_exc, FD.Out.bind_bad, FD.stE_ok, FD.stE_exc, FD.stE_bad, FD.andThen_nx, FD.andThen_bk, FD.andThen_ct, FD.andThen_rt, FD.andThen_exc, FD.andThen_bad, FD.ofO_some, FD.ofO_none, FD.Lo.d_sh, FD.Lo.d_ol, FD.Lo.d_od, FD.frz_nil, FD.frz_cons, FD.frz1_0, FD.frz1_n, FD.frz1_s, FD.uName_ap, FD.uTup_ap, FD.uCons_ap, FD.uNil_ap, FD.turn_nx, FD.turn_ct, FD.turn_bk, FD.turn_rt, FD.turn_exc, FD.forD_nil, FD.forD_n, FD.atI_0, FD.atI_1, FD.atI_2, FD.atI_3, FD.unset_rt, FD.unset_nx, FD.unset_bk, FD.unset_ct, Option.bind_some, Option.map_some, FD.gI_int, FD.gI0_int, FD.cI_int, FD.gAdd_int, FD.gNeg_int, FD.eqD_int, FD.eqD_str, FD.eqD_bl, FD.eqD_non, FD.neg2_eq, FD.blD_bl, FD.truD_non, FD.truD_bl, FD.truD_int, FD.truD_tup, FD.truD_lst, FD.truD_fls, FD.truD_dic, FD.Dt.seq_tup, FD.Dt.seq_lst, FD.Dt.seq_fls, FD.gLen_tup, FD.gLen_lst, FD.gLen_fls, FD.gInt_int, FD.gInt_bl, FD.gAbs_int, FD.gGcd_int, FD.gIx_tup, FD.gIx_lst, FD.gIx_fls, FD.isi_int_int, FD.isi_int_bool, FD.isi_bool_int, FD.isi_bool_bool, FD.isi_tup, FD.isi_lst, List.map_cons, List.map_nil, List.length_cons, List.length_nil, List.cons_append, List.nil_append, List.set_cons_zero, List.set_cons_succ, List.getElem?_cons_zero, List.getElem?_cons_succ, Nat.reduceAdd, Nat.reduceSub, Nat.zero_add, Nat.sub_self, List.replicate_zero, List.replicate_succ, Nat.reduceLeDiff, if_true, if_false, Bool.false_eq_true, Bool.not_true, Bool.not_false, decide_eq_true_eq, isi_fr, len_fr, n2, ix0, ix1, e_is_integer, e_shared qd, m1, m2, g1, e, eg, decide_true, beq_self_eq_true]
end Lk00

namespace Lk00
open PySem L2 FD
variable {K : PySem.W.Frag} {cs : Cs}
theorem e_made {n d f : Int} (hd : d ≠ 0) (hf : f ≠ 0) (hn : Bd 400 n) (hb : Bd 400 d) (hfb : Bd 400 f) : m__law_made K cs [.int n, .int d, .int f] = .ok (.bl true) := by
  unfold m__law_made argN b__law_made
  have b8 : Bd 8000 d := hb.mono (by decide)
  have b4 : Bd 440 d := hb.mono (by decide)
  have n9 : Bd 9000 n := hn.mono (by decide)
  have one : Bd 440 1 := (show Bd 1 1 by unfold Bd; decide).mono (by decide)
  have r1 := e_right (K := K) (cs := cs) (q := Rat.divInt n d) rfl hd n9 b4
  have r2 := e_right (K := K) (cs := cs) (q := Rat.divInt n 1) rfl (by decide) n9 one
  have qn : Bd 400 (Rat.divInt n d).num := hn.le (num_le n hd)
  have qd : Bd 400 ((Rat.divInt n d).den : Int) := hb.le (den_le n hd)
  have m1 : mulB (Rat.divInt n d).num f = true := mulB_of qn hfb (by decide)
  have m2 : mulB ((Rat.divInt n d).den : Int) f = true := mulB_of qd hfb (by decide)
  have d0 : ((Rat.divInt n d).den : Int) ≠ 0 := by have := (Rat.divInt n d).den_pos; omega
  have ex := e_exact (K := K) (cs := cs) (n := (Rat.divInt n d).num * f) (d := ((Rat.divInt n d).den : Int) * f) (Int.mul_ne_zero d0 hf) ((qd.mul hfb).mono (by decide))
  rw [Rat.divInt_mul_right hf, Rat.num_divInt_den] at ex
  simp only [FD.sSeq_ap, FD.sNext_ap, FD.sBrk_ap, FD.sCont_ap, FD.sIf_ap, FD.sSet_ap, FD.sSetL_ap, FD.sDrop_ap, FD.sRet_ap, FD.sRetN_ap, FD.sFor_ap, FD.sAsg_ap, FD.sRaise_ap, FD.sAppend_ap, FD.sSetIx_ap, FD.eC_ap, FD.eVar_0, FD.eVar_s, FD.e1_ap, FD.e2_ap, FD.t1_ap, FD.t2_ap, FD.eT_ap, FD.tAnd_ap, FD.tOr_ap, FD.tNot_ap, FD.eIf_ap, FD.aNil_ap, FD.aCons_ap, FD.eTup_ap, FD.lLst_ap, FD.eL_ap, FD.eB_ap, FD.eCallR_ap, FD.eAnd_ap, FD.eOr_ap, FD.eNot_ap, FD.eChain_ap, FD.oSeq_ap, FD.oRange_ap, FD.oNone_ap, FD.oInt_ap, FD.lCut_ap, FD.gCutL_lst, FD.gCutL_fls, FD.frzD_int, FD.frzD_bl, FD.frzD_str, FD.frzD_non, FD.frzD_nil, FD.frzD_lst, FD.frzD_fls, FD.outS_nx, FD.outS_rt, FD.outS_exc, FD.runD_eq, FD.Out.bind_ok, FD.Out.bind_exc, FD.Out.bind_bad, FD.stE_ok, FD.stE_exc, FD.stE_bad, FD.andThen_nx, FD.andThen_bk, FD.andThen_ct, FD.andThen_rt, FD.andThen_exc, FD.andThen_bad, FD.ofO_some, FD.ofO_none, FD.Lo.d_sh, FD.Lo.d_ol, FD.Lo.d_od, FD.frz_nil, FD.frz_cons, FD.frz1_0, FD.frz1_n, FD.frz1_s, FD.uName_ap, FD.uTup_ap, FD.uCons_ap, FD.uNil_ap, FD.turn_nx, FD.turn_ct, FD.turn_bk, FD.turn_rt, FD.turn_exc, FD.forD_nil, FD.forD_n, FD.atI_0, FD.atI_1, FD.atI_2, FD.atI_3, FD.unset_rt, FD.unset_nx, FD.unset_bk, FD.unset_ct, Option.bind_some, Option.map_some, FD.gI_int, FD.gI0_int, FD.cI_int, FD.gAdd_int, FD.gNeg_int, FD.eqD_int, FD.eqD_str, FD.eqD_bl, FD.eqD_non, FD.neg2_eq, FD.blD_bl, FD.truD_non, FD.truD_bl, FD.truD_int, FD.truD_tup, FD.truD_lst, FD.truD_fls, FD.truD_dic, FD.Dt.seq_tup, FD.Dt.seq_lst, FD.Dt.seq_fls, FD.gLen_tup, FD.gLen_lst, FD.gLen_fls, FD.gInt_int, FD.gInt_bl, FD.gAbs_int, FD.gGcd_int, FD.gIx_tup, FD.gIx_lst, FD.gIx_fls, FD.isi_int_int, FD.isi_int_bool, FD.isi_bool_int, FD.isi_bool_bool, FD.isi_tup, FD.isi_lst, List.map_cons, List.map_nil, List.length_cons, List.length_nil, List.cons_append, List.nil_append, List.set_cons_zero, List.set_cons_succ, List.getElem?_cons_zero, List.getElem?_cons_succ, Nat.reduceAdd, Nat.reduceSub, Nat.zero_add, Nat.sub_self, List.replicate_zero, List.replicate_succ, Nat.reduceLeDiff, if_true, if_false, Bool.false_eq_true, Bool.not_true, Bool.not_false, decide_eq_true_eq, e_lowest hd b4, frz_fr, e_exact hd b8, e_exact1, r1, r2, ix0, ix1, m1, m2, ex]
section
variable {P : Program} {w : World} {mg : Str → Option Value} {base : Heap}
theorem e_refused (T : Tx P w K mg base cs) {n : Int} : m__law_refused K cs [.int n] = .ok (.bl true) := by
  unfold m__law_refused argN b__law_refused
  have hD : (⟨cs.c_ZeroDenominator, []⟩ : Exn).cls ∈ cs.all := List.mem_singleton.mpr rfl
  simp only [FD.sSeq_ap, FD.sNext_ap, FD.sBrk_ap, FD.sCont_ap, FD.sIf_ap, FD.sSet_ap, FD.sSetL_ap, FD.sDrop_ap, FD.sRet_ap, FD.sRetN_ap, FD.sFor_ap, FD.sAsg_ap, FD.sRaise_ap, FD.sAppend_ap, FD.sSetIx_ap, FD.eC_ap, FD.eVar_0, FD.eVar_s, FD.e1_ap, FD.e2_ap, FD.t1_ap, FD.t2_ap, FD.eT_ap, FD.tAnd_ap, FD.tOr_ap, FD.tNot_ap, FD.eIf_ap, FD.aNil_ap, FD.aCons_ap, FD.eTup_ap, FD.lLst_ap, FD.eL_ap, FD.eB_ap, FD.eCallR_ap, FD.eAnd_ap, FD.eOr_ap, FD.eNot_ap, FD.eChain_ap, FD.oSeq_ap, FD.oRange_ap, FD.oNone_ap, FD.oInt_ap, FD.lCut_ap, FD.gCutL_lst, FD.gCutL_fls, FD.frzD_int, FD.frzD_bl, FD.frzD_str, FD.frzD_non, FD.frzD_nil, FD.frzD_lst, FD.frzD_fls, FD.outS_nx, FD.outS_rt, FD.outS_exc, FD.runD_eq, FD.Out.bind_ok, FD.Out.bind_exc, FD.Out.bind_bad, FD.stE_ok, FD.stE_exc, FD.stE_bad, FD.andThen_nx, FD.andThen_bk, FD.andThen_ct, FD.andThen_rt, FD.andThen_exc, FD.andThen_bad, FD.ofO_some, FD.ofO_none, FD.Lo.d_sh, FD.Lo.d_ol, FD.Lo.d_od, FD.frz_nil, FD.frz_cons, FD.frz1_0, FD.frz1_n, FD.frz1_s, FD.uName_ap, FD.uTup_ap, FD.uCons_ap, FD.uNil_ap, FD.turn_nx, FD.turn_ct, FD.turn_bk, FD.turn_rt, FD.turn_exc, FD.forD_nil, FD.forD_n, FD.atI_0, FD.atI_1, FD.atI_2, FD.atI_3, FD.unset_rt, FD.unset_nx, FD.unset_bk, FD.unset_ct, Option.bind_some, Option.map_some, FD.gI_int, FD.gI0_int, FD.cI_int, FD.gAdd_int, FD.gNeg_int, FD.eqD_int, FD.eqD_str, FD.eqD_bl, FD.eqD_non, FD.neg2_eq, FD.blD_bl, FD.truD_non, FD.truD_bl, FD.truD_int, FD.truD_tup, FD.truD_lst, FD.truD_fls, FD.truD_dic, FD.Dt.seq_tup, FD.Dt.seq_lst, FD.Dt.seq_fls, FD.gLen_tup, FD.gLen_lst, FD.gLen_fls, FD.gInt_int, FD.gInt_bl, FD.gAbs_int, FD.gGcd_int, FD.gIx_tup, FD.gIx_lst, FD.gIx_fls, FD.isi_int_int, FD.isi_int_bool, FD.isi_bool_int, FD.isi_bool_bool, FD.isi_tup, FD.isi_lst, List.map_cons, List.map_nil, List.length_cons, List.length_nil, List.cons_append, List.nil_append, List.set_cons_zero, List.set_cons_succ, List.getElem?_cons_zero, List.getElem?_cons_succ, Nat.reduceAdd, Nat.reduceSub, Nat.zero_add, Nat.sub_self, List.replicate_zero, List.replicate_succ, Nat.reduceLeDiff, if_true, if_false, Bool.false_eq_true, Bool.not_true, Bool.not_false, decide_eq_true_eq]
  rw [sTryAs_exc (r := .ok (.rt (.bl true)) []) (x := ⟨cs.c_ZeroDenominator, []⟩) (ρ1 := [some (.sh (.int n)), none, none]) ?g T.x_ZeroDenominator_ZeroDenominator hD ?h]
  case g => simp only [FD.sSeq_ap, FD.sNext_ap, FD.sBrk_ap, FD.sCont_ap, FD.sIf_ap, FD.sSet_ap, FD.sSetL_ap, FD.sDrop_ap, FD.sRet_ap, FD.sRetN_ap, FD.sFor_ap, FD.sAsg_ap, FD.sRaise_ap, FD.sAppend_ap, FD.sSetIx_ap, FD.eC_ap, FD.eVar_0, FD.eVar_s, FD.e1_ap, FD.e2_ap, FD.t1_ap, FD.t2_ap, FD.eT_ap, FD.tAnd_ap, FD.tOr_ap, FD.tNot_ap, FD.eIf_ap, FD.aNil_ap, FD.aCons_ap, FD.eTup_ap, FD.lLst_ap, FD.eL_ap, FD.eB_ap, FD.eCallR_ap, FD.eAnd_ap, FD.eOr_ap, FD.eNot_ap, FD.eChain_ap, FD.oSeq_ap, FD.oRange_ap, FD.oNone_ap, FD.oInt_ap, FD.lCut_ap, FD.gCutL_lst, FD.gCutL_fls, FD.frzD_int, FD.frzD_bl, FD.frzD_str, FD.frzD_non, FD.frzD_nil, FD.frzD_lst, FD.frzD_fls, FD.outS_nx, FD.outS_rt, FD.outS_exc, FD.runD_eq, FD.Out.bind_ok, FD.Out.bind_exc, FD.Out.bind_bad, FD.stE_ok, FD.stE_exc, FD.stE_bad, FD.andThen_nx, FD.andThen_bk, FD.andThen_ct, FD.andThen_rt, FD.andThen_exc, FD.andThen_bad, FD.ofO_some, FD.ofO_none, FD.Lo.d_sh, FD.Lo.d_ol, FD.Lo.d_od, FD.frz_nil, FD.frz_cons, FD.frz1_0, FD.frz1_n, FD.frz1_s, FD.uName_ap, FD.uTup_ap, FD.uCons_ap, FD.uNil_ap, FD.turn_nx, FD.turn_ct, FD.turn_bk, FD.turn_rt, FD.turn_exc, FD.forD_nil, FD.forD_n, FD.atI_0, FD.atI_1, FD.atI_2, FD.atI_3, FD.unset_rt, FD.unset_nx, FD.unset_bk, FD.unset_ct, Option.bind_some, Option.map_some, FD.gI_int, FD.gI0_int, FD.cI_int, FD.gAdd_int, FD.gNeg_int, FD.eqD_int, FD.eqD_str, FD.eqD_bl, FD.eqD_non, FD.neg2_eq, FD.blD_bl, FD.truD_non, FD.truD_bl, FD.truD_int, FD.truD_tup, FD.truD_lst, FD.truD_fls, FD.truD_dic, FD.Dt.seq_tup, FD.Dt.seq_lst, FD.Dt.seq_fls, FD.gLen_tup, FD.gLen_lst, FD.gLen_fls, FD.gInt_int, FD.gInt_bl, FD.gAbs_int, FD.gGcd_int, FD.gIx_tup, FD.gIx_lst, FD.gIx_fls, FD.isi_int_int, FD.isi_int_bool, FD.isi_bool_int, FD.isi_bool_bool, FD.isi_tup, FD.isi_lst, List.map_cons, List.map_nil, List.length_cons, List.length_nil, List.cons_append, List.nil_append, List.set_cons_zero, List.set_cons_succ, List.getElem?_cons_zero, List.getElem?_cons_succ, Nat.reduceAdd, Nat.reduceSub, Nat.zero_add, Nat.sub_self, List.replicate_zero, List.replicate_succ, Nat.reduceLeDiff, if_true, if_false, Bool.false_eq_true, Bool.not_true, Bool.not_false, decide_eq_true_eq, e_exact0]
  case h =>
    intro a d _
    unfold xAt
    simp only [FD.sSeq_ap, FD.sNext_ap, FD.sBrk_ap, FD.sCont_ap, FD.sIf_ap, FD.sSet_ap, FD.sSetL_ap, FD.sDrop_ap, FD.sRet_ap, FD.sRetN_ap, FD.sFor_ap, FD.sAsg_ap, FD.sRaise_ap, FD.sAppend_ap, FD.sSetIx_ap, FD.eC_ap, FD.eVar_0, FD.eVar_s, FD.e1_ap, FD.e2_ap, FD.t1_ap, FD.t2_ap, FD.eT_ap, FD.tAnd_ap, FD.tOr_ap, FD.tNot_ap, FD.eIf_ap, FD.aNil_ap, FD.aCons_ap, FD.eTup_ap, FD.lLst_ap, FD.eL_ap, FD.eB_ap, FD.eCallR_ap, FD.eAnd_ap, FD.eOr_ap, FD.eNot_ap, FD.eChain_ap, FD.oSeq_ap, FD.oRange_ap, FD.oNone_ap, FD.oInt_ap, FD.lCut_ap, FD.gCutL_lst, FD.gCutL_fls, FD.frzD_int, FD.frzD_bl, FD.frzD_str, FD.frzD_non, FD.frzD_nil, FD.frzD_lst, FD.frzD_fls, FD.outS_nx, FD.outS_rt, FD.outS_exc, FD.runD_eq, FD.Out.bind_ok, FD.Out.bind_exc, FD.Out.bind_bad, FD.stE_ok, FD.stE_exc, FD.stE_bad, FD.andThen_nx, FD.andThen_bk, FD.andThen_ct, FD.andThen_rt, FD.andThen_exc, FD.andThen_bad, FD.ofO_some, FD.ofO_none, FD.Lo.d_sh, FD.Lo.d_ol, FD.Lo.d_od, FD.frz_nil, FD.frz_cons, FD.frz1_0, FD.frz1_n, FD.frz1_s, FD.uName_ap, FD.uTup_ap, FD.uCons_ap, FD.uNil_ap, FD.turn_nx, FD.turn_ct, FD.turn_bk, FD.turn_rt, FD.turn_exc, FD.forD_nil, FD.forD_n, FD.atI_0, FD.atI_1, FD.atI_2, FD.atI_3, FD.unset_rt, FD.unset_nx, FD.unset_bk, FD.unset_ct, Option.bind_some, Option.map_some, FD.gI_int, FD.gI0_int, FD.cI_int, FD.gAdd_int, FD.gNeg_int, FD.eqD_int, FD.eqD_str, FD.eqD_bl, FD.eqD_non, FD.neg2_eq, FD.blD_bl, FD.truD_non, FD.truD_bl, FD.truD_int, FD.truD_tup, FD.truD_lst, FD.truD_fls, FD.truD_dic, FD.Dt.seq_tup, FD.Dt.seq_lst, FD.Dt.seq_fls, FD.gLen_tup, FD.gLen_lst, FD.gLen_fls, FD.gInt_int, FD.gInt_bl, FD.gAbs_int, FD.gGcd_int, FD.gIx_tup, FD.gIx_lst, FD.gIx_fls, FD.isi_int_int, FD.isi_int_bool, FD.isi_bool_int, FD.isi_bool_bool, FD.isi_tup, FD.isi_lst, List.map_cons, List.map_nil, List.length_cons, List.length_nil, List.cons_append, List.nil_append, List.set_cons_zero, List.set_cons_succ, List.getElem?_cons_zero, List.getElem?_cons_succ, Nat.reduceAdd, Nat.reduceSub, Nat.zero_add, Nat.sub_self, List.replicate_zero, List.replicate_succ, Nat.reduceLeDiff, if_true, if_false, Bool.false_eq_true, Bool.not_true, Bool.not_false, decide_eq_true_eq, gIsX_cls T.i_ZeroDenominator_BadExact, gIsX_cls T.i_ZeroDenominator_Unfit, gIsX_cls T.i_ZeroDenominator_NoAnswer, gIsX_cls T.i_ZeroDenominator_Refused, gIsX_ty T.i_ZeroDenominator_ValueError]
  simp only [FD.sSeq_ap, FD.sNext_ap, FD.sBrk_ap, FD.sCont_ap, FD.sIf_ap, FD.sSet_ap, FD.sSetL_ap, FD.sDrop_ap, FD.sRet_ap, FD.sRetN_ap, FD.sFor_ap, FD.sAsg_ap, FD.sRaise_ap, FD.sAppend_ap, FD.sSetIx_ap, FD.eC_ap, FD.eVar_0, FD.eVar_s, FD.e1_ap, FD.e2_ap, FD.t1_ap, FD.t2_ap, FD.eT_ap, FD.tAnd_ap, FD.tOr_ap, FD.tNot_ap, FD.eIf_ap, FD.aNil_ap, FD.aCons_ap, FD.eTup_ap, FD.lLst_ap, FD.eL_ap, FD.eB_ap, FD.eCallR_ap, FD.eAnd_ap, FD.eOr_ap, FD.eNot_ap, FD.eChain_ap, FD.oSeq_ap, FD.oRange_ap, FD.oNone_ap, FD.oInt_ap, FD.lCut_ap, FD.gCutL_lst, FD.gCutL_fls, FD.frzD_int, FD.frzD_bl, FD.frzD_str, FD.frzD_non, FD.frzD_nil, FD.frzD_lst, FD.frzD_fls, FD.outS_nx, FD.outS_rt, FD.outS_exc, FD.runD_eq, FD.Out.bind_ok, FD.Out.bind_exc, FD.Out.bind_bad, FD.stE_ok, FD.stE_exc, FD.stE_bad, FD.andThen_nx, FD.andThen_bk, FD.andThen_ct, FD.andThen_rt, FD.andThen_exc, FD.andThen_bad, FD.ofO_some, FD.ofO_none, FD.Lo.d_sh, FD.Lo.d_ol, FD.Lo.d_od, FD.frz_nil, FD.frz_cons, FD.frz1_0, FD.frz1_n, FD.frz1_s, FD.uName_ap, FD.uTup_ap, FD.uCons_ap, FD.uNil_ap, FD.turn_nx, FD.turn_ct, FD.turn_bk, FD.turn_rt, FD.turn_exc, FD.forD_nil, FD.forD_n, FD.atI_0, FD.atI_1, FD.atI_2, FD.atI_3, FD.unset_rt, FD.unset_nx, FD.unset_bk, FD.unset_ct, Option.bind_some, Option.map_some, FD.gI_int, FD.gI0_int, FD.cI_int, FD.gAdd_int, FD.gNeg_int, FD.eqD_int, FD.eqD_str, FD.eqD_bl, FD.eqD_non, FD.neg2_eq, FD.blD_bl, FD.truD_non, FD.truD_bl, FD.truD_int, FD.truD_tup, FD.truD_lst, FD.truD_fls, FD.truD_dic, FD.Dt.seq_tup, FD.Dt.seq_lst, FD.Dt.seq_fls, FD.gLen_tup, FD.gLen_lst, FD.gLen_fls, FD.gInt_int, FD.gInt_bl, FD.gAbs_int, FD.gGcd_int, FD.gIx_tup, FD.gIx_lst, FD.gIx_fls, FD.isi_int_int, FD.isi_int_bool, FD.isi_bool_int, FD.isi_bool_bool, FD.isi_tup, FD.isi_lst, List.map_cons, List.map_nil, List.length_cons, List.length_nil, List.cons_append, List.nil_append, List.set_cons_zero, List.set_cons_succ, List.getElem?_cons_zero, List.getElem?_cons_succ, Nat.reduceAdd, Nat.reduceSub, Nat.zero_add, Nat.sub_self, List.replicate_zero, List.replicate_succ, Nat.reduceLeDiff, if_true, if_false, Bool.false_eq_true, Bool.not_true, Bool.not_false, decide_eq_true_eq]
theorem e_refused_by_base (T : Tx P w K mg base cs) {n : Int} : m__law_refused_by_base K cs [.int n] = .ok (.bl true) := by
  unfold m__law_refused_by_base argN b__law_refused_by_base
  have hD : (⟨cs.c_ZeroDenominator, []⟩ : Exn).cls ∈ cs.all := List.mem_singleton.mpr rfl
  simp only [FD.sSeq_ap, FD.sNext_ap, FD.sBrk_ap, FD.sCont_ap, FD.sIf_ap, FD.sSet_ap, FD.sSetL_ap, FD.sDrop_ap, FD.sRet_ap, FD.sRetN_ap, FD.sFor_ap, FD.sAsg_ap, FD.sRaise_ap, FD.sAppend_ap, FD.sSetIx_ap, FD.eC_ap, FD.eVar_0, FD.eVar_s, FD.e1_ap, FD.e2_ap, FD.t1_ap, FD.t2_ap, FD.eT_ap, FD.tAnd_ap, FD.tOr_ap, FD.tNot_ap, FD.eIf_ap, FD.aNil_ap, FD.aCons_ap, FD.eTup_ap, FD.lLst_ap, FD.eL_ap, FD.eB_ap, FD.eCallR_ap, FD.eAnd_ap, FD.eOr_ap, FD.eNot_ap, FD.eChain_ap, FD.oSeq_ap, FD.oRange_ap, FD.oNone_ap, FD.oInt_ap, FD.lCut_ap, FD.gCutL_lst, FD.gCutL_fls, FD.frzD_int, FD.frzD_bl, FD.frzD_str, FD.frzD_non, FD.frzD_nil, FD.frzD_lst, FD.frzD_fls, FD.outS_nx, FD.outS_rt, FD.outS_exc, FD.runD_eq, FD.Out.bind_ok, FD.Out.bind_exc, FD.Out.bind_bad, FD.stE_ok, FD.stE_exc, FD.stE_bad, FD.andThen_nx, FD.andThen_bk, FD.andThen_ct, FD.andThen_rt, FD.andThen_exc, FD.andThen_bad, FD.ofO_some, FD.ofO_none, FD.Lo.d_sh, FD.Lo.d_ol, FD.Lo.d_od, FD.frz_nil, FD.frz_cons, FD.frz1_0, FD.frz1_n, FD.frz1_s, FD.uName_ap, FD.uTup_ap, FD.uCons_ap, FD.uNil_ap, FD.turn_nx, FD.turn_ct, FD.turn_bk, FD.turn_rt, FD.turn_exc, FD.forD_nil, FD.forD_n, FD.atI_0, FD.atI_1, FD.atI_2, FD.atI_3, FD.unset_rt, FD.unset_nx, FD.unset_bk, FD.unset_ct, Option.bind_some, Option.map_some, FD.gI_int, FD.gI0_int, FD.cI_int, FD.gAdd_int, FD.gNeg_int, FD.eqD_int, FD.eqD_str, FD.eqD_bl, FD.eqD_non, FD.neg2_eq, FD.blD_bl, FD.truD_non, FD.truD_bl, FD.truD_int, FD.truD_tup, FD.truD_lst, FD.truD_fls, FD.truD_dic, FD.Dt.seq_tup, FD.Dt.seq_lst, FD.Dt.seq_fls, FD.gLen_tup, FD.gLen_lst, FD.gLen_fls, FD.gInt_int, FD.gInt_bl, FD.gAbs_int, FD.gGcd_int, FD.gIx_tup, FD.gIx_lst, FD.gIx_fls, FD.isi_int_int, FD.isi_int_bool, FD.isi_bool_int, FD.isi_bool_bool, FD.isi_tup, FD.isi_lst, List.map_cons, List.map_nil, List.length_cons, List.length_nil, List.cons_append, List.nil_append, List.set_cons_zero, List.set_cons_succ, List.getElem?_cons_zero, List.getElem?_cons_succ, Nat.reduceAdd, Nat.reduceSub, Nat.zero_add, Nat.sub_self, List.replicate_zero, List.replicate_succ, Nat.reduceLeDiff, if_true, if_false, Bool.false_eq_true, Bool.not_true, Bool.not_false, decide_eq_true_eq]
  rw [sTryAs_exc (r := .ok (.rt (.bl true)) []) (x := ⟨cs.c_ZeroDenominator, []⟩) (ρ1 := [some (.sh (.int n)), none]) ?g T.x_ZeroDenominator_HouseError hD ?h]
  case g => simp only [FD.sSeq_ap, FD.sNext_ap, FD.sBrk_ap, FD.sCont_ap, FD.sIf_ap, FD.sSet_ap, FD.sSetL_ap, FD.sDrop_ap, FD.sRet_ap, FD.sRetN_ap, FD.sFor_ap, FD.sAsg_ap, FD.sRaise_ap, FD.sAppend_ap, FD.sSetIx_ap, FD.eC_ap, FD.eVar_0, FD.eVar_s, FD.e1_ap, FD.e2_ap, FD.t1_ap, FD.t2_ap, FD.eT_ap, FD.tAnd_ap, FD.tOr_ap, FD.tNot_ap, FD.eIf_ap, FD.aNil_ap, FD.aCons_ap, FD.eTup_ap, FD.lLst_ap, FD.eL_ap, FD.eB_ap, FD.eCallR_ap, FD.eAnd_ap, FD.eOr_ap, FD.eNot_ap, FD.eChain_ap, FD.oSeq_ap, FD.oRange_ap, FD.oNone_ap, FD.oInt_ap, FD.lCut_ap, FD.gCutL_lst, FD.gCutL_fls, FD.frzD_int, FD.frzD_bl, FD.frzD_str, FD.frzD_non, FD.frzD_nil, FD.frzD_lst, FD.frzD_fls, FD.outS_nx, FD.outS_rt, FD.outS_exc, FD.runD_eq, FD.Out.bind_ok, FD.Out.bind_exc, FD.Out.bind_bad, FD.stE_ok, FD.stE_exc, FD.stE_bad, FD.andThen_nx, FD.andThen_bk, FD.andThen_ct, FD.andThen_rt, FD.andThen_exc, FD.andThen_bad, FD.ofO_some, FD.ofO_none, FD.Lo.d_sh, FD.Lo.d_ol, FD.Lo.d_od, FD.frz_nil, FD.frz_cons, FD.frz1_0, FD.frz1_n, FD.frz1_s, FD.uName_ap, FD.uTup_ap, FD.uCons_ap, FD.uNil_ap, FD.turn_nx, FD.turn_ct, FD.turn_bk, FD.turn_rt, FD.turn_exc, FD.forD_nil, FD.forD_n, FD.atI_0, FD.atI_1, FD.atI_2, FD.atI_3, FD.unset_rt, FD.unset_nx, FD.unset_bk, FD.unset_ct, Option.bind_some, Option.map_some, FD.gI_int, FD.gI0_int, FD.cI_int, FD.gAdd_int, FD.gNeg_int, FD.eqD_int, FD.eqD_str, FD.eqD_bl, FD.eqD_non, FD.neg2_eq, FD.blD_bl, FD.truD_non, FD.truD_bl, FD.truD_int, FD.truD_tup, FD.truD_lst, FD.truD_fls, FD.truD_dic, FD.Dt.seq_tup, FD.Dt.seq_lst, FD.Dt.seq_fls, FD.gLen_tup, FD.gLen_lst, FD.gLen_fls, FD.gInt_int, FD.gInt_bl, FD.gAbs_int, FD.gGcd_int, FD.gIx_tup, FD.gIx_lst, FD.gIx_fls, FD.isi_int_int, FD.isi_int_bool, FD.isi_bool_int, FD.isi_bool_bool, FD.isi_tup, FD.isi_lst, List.map_cons, List.map_nil, List.length_cons, List.length_nil, List.cons_append, List.nil_append, List.set_cons_zero, List.set_cons_succ, List.getElem?_cons_zero, List.getElem?_cons_succ, Nat.reduceAdd, Nat.reduceSub, Nat.zero_add, Nat.sub_self, List.replicate_zero, List.replicate_succ, Nat.reduceLeDiff, if_true, if_false, Bool.false_eq_true, Bool.not_true, Bool.not_false, decide_eq_true_eq, e_exact0]
  case h =>
    intro a d _
    unfold xAt
    simp only [FD.sSeq_ap, FD.sNext_ap, FD.sBrk_ap, FD.sCont_ap, FD.sIf_ap, FD.sSet_ap, FD.sSetL_ap, FD.sDrop_ap, FD.sRet_ap, FD.sRetN_ap, FD.sFor_ap, FD.sAsg_ap, FD.sRaise_ap, FD.sAppend_ap, FD.sSetIx_ap, FD.eC_ap, FD.eVar_0, FD.eVar_s, FD.e1_ap, FD.e2_ap, FD.t1_ap, FD.t2_ap, FD.eT_ap, FD.tAnd_ap, FD.tOr_ap, FD.tNot_ap, FD.eIf_ap, FD.aNil_ap, FD.aCons_ap, FD.eTup_ap, FD.lLst_ap, FD.eL_ap, FD.eB_ap, FD.eCallR_ap, FD.eAnd_ap, FD.eOr_ap, FD.eNot_ap, FD.eChain_ap, FD.oSeq_ap, FD.oRange_ap, FD.oNone_ap, FD.oInt_ap, FD.lCut_ap, FD.gCutL_lst, FD.gCutL_fls, FD.frzD_int, FD.frzD_bl, FD.frzD_str, FD.frzD_non, FD.frzD_nil, FD.frzD_lst, FD.frzD_fls, FD.outS_nx, FD.outS_rt, FD.outS_exc, FD.runD_eq, FD.Out.bind_ok, FD.Out.bind_exc, FD.Out.bind_bad, FD.stE_ok, FD.stE_exc, FD.stE_bad, FD.andThen_nx, FD.andThen_bk, FD.andThen_ct, FD.andThen_rt, FD.andThen_exc, FD.andThen_bad, FD.ofO_some, FD.ofO_none, FD.Lo.d_sh, FD.Lo.d_ol, FD.Lo.d_od, FD.frz_nil, FD.frz_cons, FD.frz1_0, FD.frz1_n, FD.frz1_s, FD.uName_ap, FD.uTup_ap, FD.uCons_ap, FD.uNil_ap, FD.turn_nx, FD.turn_ct, FD.turn_bk, FD.turn_rt, FD.turn_exc, FD.forD_nil, FD.forD_n, FD.atI_0, FD.atI_1, FD.atI_2, FD.atI_3, FD.unset_rt, FD.unset_nx, FD.unset_bk, FD.unset_ct, Option.bind_some, Option.map_some, FD.gI_int, FD.gI0_int, FD.cI_int, FD.gAdd_int, FD.gNeg_int, FD.eqD_int, FD.eqD_str, FD.eqD_bl, FD.eqD_non, FD.neg2_eq, FD.blD_bl, FD.truD_non, FD.truD_bl, FD.truD_int, FD.truD_tup, FD.truD_lst, FD.truD_fls, FD.truD_dic, FD.Dt.seq_tup, FD.Dt.seq_lst, FD.Dt.seq_fls, FD.gLen_tup, FD.gLen_lst, FD.gLen_fls, FD.gInt_int, FD.gInt_bl, FD.gAbs_int, FD.gGcd_int, FD.gIx_tup, FD.gIx_lst, FD.gIx_fls, FD.isi_int_int, FD.isi_int_bool, FD.isi_bool_int, FD.isi_bool_bool, FD.isi_tup, FD.isi_lst, List.map_cons, List.map_nil, List.length_cons, List.length_nil, List.cons_append, List.nil_append, List.set_cons_zero, List.set_cons_succ, List.getElem?_cons_zero, List.getElem?_cons_succ, Nat.reduceAdd, Nat.reduceSub, Nat.zero_add, Nat.sub_self, List.replicate_zero, List.replicate_succ, Nat.reduceLeDiff, if_true, if_false, Bool.false_eq_true, Bool.not_true, Bool.not_false, decide_eq_true_eq, gIsX_cls T.i_ZeroDenominator_ZeroDenominator]
  simp only [FD.sSeq_ap, FD.sNext_ap, FD.sBrk_ap, FD.sCont_ap, FD.sIf_ap, FD.sSet_ap, FD.sSetL_ap, FD.sDrop_ap, FD.sRet_ap, FD.sRetN_ap, FD.sFor_ap, FD.sAsg_ap, FD.sRaise_ap, FD.sAppend_ap, FD.sSetIx_ap, FD.eC_ap, FD.eVar_0, FD.eVar_s, FD.e1_ap, FD.e2_ap, FD.t1_ap, FD.t2_ap, FD.eT_ap, FD.tAnd_ap, FD.tOr_ap, FD.tNot_ap, FD.eIf_ap, FD.aNil_ap, FD.aCons_ap, FD.eTup_ap, FD.lLst_ap, FD.eL_ap, FD.eB_ap, FD.eCallR_ap, FD.eAnd_ap, FD.eOr_ap, FD.eNot_ap, FD.eChain_ap, FD.oSeq_ap, FD.oRange_ap, FD.oNone_ap, FD.oInt_ap, FD.lCut_ap, FD.gCutL_lst, FD.gCutL_fls, FD.frzD_int, FD.frzD_bl, FD.frzD_str, FD.frzD_non, FD.frzD_nil, FD.frzD_lst, FD.frzD_fls, FD.outS_nx, FD.outS_rt, FD.outS_exc, FD.runD_eq, FD.Out.bind_ok, FD.Out.bind_exc, FD.Out.bind_bad, FD.stE_ok, FD.stE_exc, FD.stE_bad, FD.andThen_nx, FD.andThen_bk, FD.andThen_ct, FD.andThen_rt, FD.andThen_exc, FD.andThen_bad, FD.ofO_some, FD.ofO_none, FD.Lo.d_sh, FD.Lo.d_ol, FD.Lo.d_od, FD.frz_nil, FD.frz_cons, FD.frz1_0, FD.frz1_n, FD.frz1_s, FD.uName_ap, FD.uTup_ap, FD.uCons_ap, FD.uNil_ap, FD.turn_nx, FD.turn_ct, FD.turn_bk, FD.turn_rt, FD.turn_exc, FD.forD_nil, FD.forD_n, FD.atI_0, FD.atI_1, FD.atI_2, FD.atI_3, FD.unset_rt, FD.unset_nx, FD.unset_bk, FD.unset_ct, Option.bind_some, Option.map_some, FD.gI_int, FD.gI0_int, FD.cI_int, FD.gAdd_int, FD.gNeg_int, FD.eqD_int, FD.eqD_str, FD.eqD_bl, FD.eqD_non, FD.neg2_eq, FD.blD_bl, FD.truD_non, FD.truD_bl, FD.truD_int, FD.truD_tup, FD.truD_lst, FD.truD_fls, FD.truD_dic, FD.Dt.seq_tup, FD.Dt.seq_lst, FD.Dt.seq_fls, FD.gLen_tup, FD.gLen_lst, FD.gLen_fls, FD.gInt_int, FD.gInt_bl, FD.gAbs_int, FD.gGcd_int, FD.gIx_tup, FD.gIx_lst, FD.gIx_fls, FD.isi_int_int, FD.isi_int_bool, FD.isi_bool_int, FD.isi_bool_bool, FD.isi_tup, FD.isi_lst, List.map_cons, List.map_nil, List.length_cons, List.length_nil, List.cons_append, List.nil_append, List.set_cons_zero, List.set_cons_succ, List.getElem?_cons_zero, List.getElem?_cons_succ, Nat.reduceAdd, Nat.reduceSub, Nat.zero_add, Nat.sub_self, List.replicate_zero, List.replicate_succ, Nat.reduceLeDiff, if_true, if_false, Bool.false_eq_true, Bool.not_true, Bool.not_false, decide_eq_true_eq]
end
/-! ### sums -/
/-- a fraction whose parts have fewer than n bits -/
def Bf (n : Nat) (q : Rat) : Prop := Bd n q.num ∧ Bd n (q.den : Int)
theorem den0 (q : Rat) : (q.den : Int) ≠ 0 := by have := q.den_pos; omega
theorem Bf.of {n d : Int} {m : Nat} (hd : d ≠ 0) (hn : Bd m n) (hb : Bd m d) : Bf m (Rat.divInt n d) := ⟨hn.le (num_le n hd), hb.le (den_le n hd)⟩
theorem add_div (t q : Rat) : Rat.divInt (t.num * (q.den : Int) + q.num * (t.den : Int)) ((t.den : Int) * (q.den : Int)) = t + q := by
  rw [← Rat.divInt_add_divInt _ _ (den0 t) (den0 q), Rat.num_divInt_den, Rat.num_divInt_den]
theorem sum_loop : ∀ (qs : List Rat) (t : Rat) (m : Nat) (x y z : Option Lo), Bf m t → (∀ q ∈ qs, Bf 400 q) → m + 402 * qs.length ≤ 8000 → ∃ x' y', forD (uTup (uCons (uName 2) (uCons (uName 3) uNil)))
    (sSet 1 (eCallR (m_exact K cs) (aCons (e2 (e2 (e2 (eVar 1) (eC (.int 0)) gIx) (eVar 3) (gI mulB (· * ·))) (e2 (eVar 2) (e2 (eVar 1) (eC (.int 1)) gIx) (gI mulB (· * ·))) gAdd) (aCons (e2 (e2 (eVar 1) (eC (.int 1)) gIx) (eVar 3) (gI mulB (· * ·))) aNil))) [])
    (qs.map fr) [x, some (.sh (fr t)), y, z] = .ok .nx [x, some (.sh (fr (qs.foldl (· + ·) t))), x', y']
  | [], t, m, x, y, z, _, _, _ => ⟨y, z, rfl⟩
  | q :: qs, t, m, x, y, z, ht, hq, hm => by
    simp only [List.length_cons] at hm
    obtain ⟨t1, t2⟩ := ht
    obtain ⟨q1, q2⟩ := hq q List.mem_cons_self
    have m1 : mulB t.num (q.den : Int) = true := mulB_of t1 q2 (by omega)
    have m2 : mulB q.num (t.den : Int) = true := mulB_of q1 t2 (by omega)
    have m3 : mulB (t.den : Int) (q.den : Int) = true := mulB_of t2 q2 (by omega)
    have d0 := Int.mul_ne_zero (den0 t) (den0 q)
    have bD : Bd (m + 400) ((t.den : Int) * (q.den : Int)) := t2.mul q2
    have bN : Bd (m + 402) (t.num * (q.den : Int) + q.num * (t.den : Int)) := ((t1.mul q2).add (q1.mul t2)).mono (by omega)
    have ex := e_exact (K := K) (cs := cs) (n := t.num * (q.den : Int) + q.num * (t.den : Int)) d0 (bD.mono (by omega))
    have hb := Bf.of d0 bN (bD.mono (by omega))
    rw [add_div] at ex hb
    obtain ⟨x', y', e⟩ := sum_loop qs (t + q) (m + 402) x (some (.sh (.int q.num))) (some (.sh (.int (q.den : Int)))) hb (fun q h => hq q (List.mem_cons_of_mem _ h)) (by omega)
    refine ⟨x', y', ?_⟩
    rw [List.map_cons, forD_c (ρ1 := [x, some (.sh (fr t)), some (.sh (.int q.num)), some (.sh (.int (q.den : Int)))]) rfl]
    simp only [FD.sSeq_ap, FD.sNext_ap, FD.sBrk_ap, FD.sCont_ap, FD.sIf_ap, FD.sSet_ap, FD.sSetL_ap, FD.sDrop_ap, FD.sRet_ap, FD.sRetN_ap, FD.sFor_ap, FD.sAsg_ap, FD.sRaise_ap, FD.sAppend_ap, FD.sSetIx_ap, FD.eC_ap, FD.eVar_0, FD.eVar_s, FD.e1_ap, FD.e2_ap, FD.t1_ap, FD.t2_ap, FD.eT_ap, FD.tAnd_ap, FD.tOr_ap, FD.tNot_ap, FD.eIf_ap, FD.aNil_ap, FD.aCons_ap, FD.eTup_ap, FD.lLst_ap, FD.eL_ap, FD.eB_ap, FD.eCallR_ap, FD.eAnd_ap, FD.eOr_ap, FD.eNot_ap, FD.eChain_ap, FD.oSeq_ap, FD.oRange_ap, FD.oNone_ap, FD.oInt_ap, FD.lCut_ap, FD.gCutL_lst, FD.gCutL_fls, FD.frzD_int, FD.frzD_bl, FD.frzD_str, FD.frzD_non, FD.frzD_nil, FD.frzD_lst, FD.frzD_fls, FD.outS_nx, FD.outS_rt, FD.outS_exc, FD.runD_eq, FD.Out.bind_ok, FD.Out.bind_exc, FD.Out.bind_bad, FD.stE_ok, FD.stE_exc, FD.stE_bad, FD.andThen_nx, FD.andThen_bk, FD.andThen_ct, FD.andThen_rt, FD.andThen_exc, FD.andThen_bad, FD.ofO_some, FD.ofO_none, FD.Lo.d_sh, FD.Lo.d_ol, FD.Lo.d_od, FD.frz_nil, FD.frz_cons, FD.frz1_0, FD.frz1_n, FD.frz1_s, FD.uName_ap, FD.uTup_ap, FD.uCons_ap, FD.uNil_ap, FD.turn_nx, FD.turn_ct, FD.turn_bk, FD.turn_rt, FD.turn_exc, FD.forD_nil, FD.forD_n, FD.atI_0, FD.atI_1, FD.atI_2, FD.atI_3, FD.unset_rt, FD.unset_nx, FD.unset_bk, FD.unset_ct, Option.bind_some, Option.map_some, FD.gI_int, FD.gI0_int, FD.cI_int, FD.gAdd_int, FD.gNeg_int, FD.eqD_int, FD.eqD_str, FD.eqD_bl, FD.eqD_non, FD.neg2_eq, FD.blD_bl, FD.truD_non, FD.truD_bl, FD.truD_int, FD.truD_tup, FD.truD_lst, FD.truD_fls, FD.truD_dic, FD.Dt.seq_tup, FD.Dt.seq_lst, FD.Dt.seq_fls, FD.gLen_tup, FD.gLen_lst, FD.gLen_fls, FD.gInt_int, FD.gInt_bl, FD.gAbs_int, FD.gGcd_int, FD.gIx_tup, FD.gIx_lst, FD.gIx_fls, FD.isi_int_int, FD.isi_int_bool, FD.isi_bool_int, FD.isi_bool_bool, FD.isi_tup, FD.isi_lst, List.map_cons, List.map_nil, List.length_cons, List.length_nil, List.cons_append, List.nil_append, List.set_cons_zero, List.set_cons_succ, List.getElem?_cons_zero, List.getElem?_cons_succ, Nat.reduceAdd, Nat.reduceSub, Nat.zero_add, Nat.sub_self, List.replicate_zero, List.replicate_succ, Nat.reduceLeDiff, if_true, if_false, Bool.false_eq_true, Bool.not_true, Bool.not_false, decide_eq_true_eq, ix0, ix1, m1, m2, m3, ex]
    exact e
theorem e_sum_of (qs : List Rat) (hq : ∀ q ∈ qs, Bf 400 q) (hl : qs.length ≤ 15) : m_sum_of K cs (qs.map fr) = .ok (fr (qs.foldl (· + ·) 0)) := by
  unfold m_sum_of argS b_sum_of
  obtain ⟨x', y', e⟩ := sum_loop (K := K) (cs := cs) qs 0 1 (some (.sh (.tup (qs.map fr)))) none none ⟨by unfold Bd; decide, by unfold Bd; decide⟩ hq (by omega)
  have hlen : (0 ≤ (qs.map fr).length ∧ (qs.map fr).length ≤ 16777216) := by rw [List.length_map]; omega
  have z : Dt.tup [.int 0, .int 1] = fr 0 := rfl
  rw [if_pos hlen]
  simp only [FD.sSeq_ap, FD.sNext_ap, FD.sBrk_ap, FD.sCont_ap, FD.sIf_ap, FD.sSet_ap, FD.sSetL_ap, FD.sDrop_ap, FD.sRet_ap, FD.sRetN_ap, FD.sFor_ap, FD.sAsg_ap, FD.sRaise_ap, FD.sAppend_ap, FD.sSetIx_ap, FD.eC_ap, FD.eVar_0, FD.eVar_s, FD.e1_ap, FD.e2_ap, FD.t1_ap, FD.t2_ap, FD.eT_ap, FD.tAnd_ap, FD.tOr_ap, FD.tNot_ap, FD.eIf_ap, FD.aNil_ap, FD.aCons_ap, FD.eTup_ap, FD.lLst_ap, FD.eL_ap, FD.eB_ap, FD.eCallR_ap, FD.eAnd_ap, FD.eOr_ap, FD.eNot_ap, FD.eChain_ap, FD.oSeq_ap, FD.oRange_ap, FD.oNone_ap, FD.oInt_ap, FD.lCut_ap, FD.gCutL_lst, FD.gCutL_fls, FD.frzD_int, FD.frzD_bl, FD.frzD_str, FD.frzD_non, FD.frzD_nil, FD.frzD_lst, FD.frzD_fls, FD.outS_nx, FD.outS_rt, FD.outS_exc, FD.runD_eq, FD.Out.bind_ok, FD.Out.bind_exc, FD.Out.bind_bad, FD.stE_ok, FD.stE_exc, FD.stE_bad, FD.andThen_nx, FD.andThen_bk, FD.andThen_ct, FD.andThen_rt, FD.andThen_exc, FD.andThen_bad, FD.ofO_some, FD.ofO_none, FD.Lo.d_sh, FD.Lo.d_ol, FD.Lo.d_od, FD.frz_nil, FD.frz_cons, FD.frz1_0, FD.frz1_n, FD.frz1_s, FD.uName_ap, FD.uTup_ap, FD.uCons_ap, FD.uNil_ap, FD.turn_nx, FD.turn_ct, FD.turn_bk, FD.turn_rt, FD.turn_exc, FD.forD_nil, FD.forD_n, FD.atI_0, FD.atI_1, FD.atI_2, FD.atI_3, FD.unset_rt, FD.unset_nx, FD.unset_bk, FD.unset_ct, Option.bind_some, Option.map_some, FD.gI_int, FD.gI0_int, FD.cI_int, FD.gAdd_int, FD.gNeg_int, FD.eqD_int, FD.eqD_str, FD.eqD_bl, FD.eqD_non, FD.neg2_eq, FD.blD_bl, FD.truD_non, FD.truD_bl, FD.truD_int, FD.truD_tup, FD.truD_lst, FD.truD_fls, FD.truD_dic, FD.Dt.seq_tup, FD.Dt.seq_lst, FD.Dt.seq_fls, FD.gLen_tup, FD.gLen_lst, FD.gLen_fls, FD.gInt_int, FD.gInt_bl, FD.gAbs_int, FD.gGcd_int, FD.gIx_tup, FD.gIx_lst, FD.gIx_fls, FD.isi_int_int, FD.isi_int_bool, FD.isi_bool_int, FD.isi_bool_bool, FD.isi_tup, FD.isi_lst, List.map_cons, List.map_nil, List.length_cons, List.length_nil, List.cons_append, List.nil_append, List.set_cons_zero, List.set_cons_succ, List.getElem?_cons_zero, List.getElem?_cons_succ, Nat.reduceAdd, Nat.reduceSub, Nat.zero_add, Nat.sub_self, List.replicate_zero, List.replicate_succ, Nat.reduceLeDiff, if_true, if_false, Bool.false_eq_true, Bool.not_true, Bool.not_false, decide_eq_true_eq, List.take_zero, List.drop_zero, z, e]
end Lk00

namespace Lk00
open PySem L2 FD
variable {K : PySem.W.Frag} {cs : Cs}
theorem e_difference {a b : Rat} (ha : Bf 400 a) (hb : Bf 400 b) : m_difference K cs [fr a, fr b] = .ok (fr (Rat.divInt (a.num * (b.den : Int) - b.num * (a.den : Int)) ((a.den : Int) * (b.den : Int)))) := by
  unfold m_difference argN b_difference
  have m1 : mulB a.num (b.den : Int) = true := mulB_of ha.1 hb.2 (by decide)
  have m2 : mulB b.num (a.den : Int) = true := mulB_of hb.1 ha.2 (by decide)
  have m3 : mulB (a.den : Int) (b.den : Int) = true := mulB_of ha.2 hb.2 (by decide)
  simp only [FD.sSeq_ap, FD.sNext_ap, FD.sBrk_ap, FD.sCont_ap, FD.sIf_ap, FD.sSet_ap, FD.sSetL_ap, FD.sDrop_ap, FD.sRet_ap, FD.sRetN_ap, FD.sFor_ap, FD.sAsg_ap, FD.sRaise_ap, FD.sAppend_ap, FD.sSetIx_ap, FD.eC_ap, FD.eVar_0, FD.eVar_s, FD.e1_ap, FD.e2_ap, FD.t1_ap, FD.t2_ap, FD.eT_ap, FD.tAnd_ap, FD.tOr_ap, FD.tNot_ap, FD.eIf_ap, FD.aNil_ap, FD.aCons_ap, FD.eTup_ap, FD.lLst_ap, FD.eL_ap, FD.eB_ap, FD.eCallR_ap, FD.eAnd_ap, FD.eOr_ap, FD.eNot_ap, FD.eChain_ap, FD.oSeq_ap, FD.oRange_ap, FD.oNone_ap, FD.oInt_ap, FD.lCut_ap, FD.gCutL_lst, FD.gCutL_fls, FD.frzD_int, FD.frzD_bl, FD.frzD_str, FD.frzD_non, FD.frzD_nil, FD.frzD_lst, FD.frzD_fls, FD.outS_nx, FD.outS_rt, FD.outS_exc, FD.runD_eq, FD.Out.bind_ok, FD.Out.bind_exc, FD.Out.bind_bad, FD.stE_ok, FD.stE_exc, FD.stE_bad, FD.andThen_nx, FD.andThen_bk, FD.andThen_ct, FD.andThen_rt, FD.andThen_exc, FD.andThen_bad, FD.ofO_some, FD.ofO_none, FD.Lo.d_sh, FD.Lo.d_ol, FD.Lo.d_od, FD.frz_nil, FD.frz_cons, FD.frz1_0, FD.frz1_n, FD.frz1_s, FD.uName_ap, FD.uTup_ap, FD.uCons_ap, FD.uNil_ap, FD.turn_nx, FD.turn_ct, FD.turn_bk, FD.turn_rt, FD.turn_exc, FD.forD_nil, FD.forD_n, FD.atI_0, FD.atI_1, FD.atI_2, FD.atI_3, FD.unset_rt, FD.unset_nx, FD.unset_bk, FD.unset_ct, Option.bind_some, Option.map_some, FD.gI_int, FD.gI0_int, FD.cI_int, FD.gAdd_int, FD.gNeg_int, FD.eqD_int, FD.eqD_str, FD.eqD_bl, FD.eqD_non, FD.neg2_eq, FD.blD_bl, FD.truD_non, FD.truD_bl, FD.truD_int, FD.truD_tup, FD.truD_lst, FD.truD_fls, FD.truD_dic, FD.Dt.seq_tup, FD.Dt.seq_lst, FD.Dt.seq_fls, FD.gLen_tup, FD.gLen_lst, FD.gLen_fls, FD.gInt_int, FD.gInt_bl, FD.gAbs_int, FD.gGcd_int, FD.gIx_tup, FD.gIx_lst, FD.gIx_fls, FD.isi_int_int, FD.isi_int_bool, FD.isi_bool_int, FD.isi_bool_bool, FD.isi_tup, FD.isi_lst, List.map_cons, List.map_nil, List.length_cons, List.length_nil, List.cons_append, List.nil_append, List.set_cons_zero, List.set_cons_succ, List.getElem?_cons_zero, List.getElem?_cons_succ, Nat.reduceAdd, Nat.reduceSub, Nat.zero_add, Nat.sub_self, List.replicate_zero, List.replicate_succ, Nat.reduceLeDiff, if_true, if_false, Bool.false_eq_true, Bool.not_true, Bool.not_false, decide_eq_true_eq, ix0, ix1, m1, m2, m3, e_exact (Int.mul_ne_zero (den0 a) (den0 b)) ((ha.2.mul hb.2).mono (by decide))]
theorem e_times {a : Rat} {k : Int} (ha : Bf 400 a) (hk : Bd 400 k) : m_times K cs [fr a, .int k] = .ok (fr (Rat.divInt (a.num * k) (a.den : Int))) := by
  unfold m_times argN b_times
  have m1 : mulB a.num k = true := mulB_of ha.1 hk (by decide)
  simp only [FD.sSeq_ap, FD.sNext_ap, FD.sBrk_ap, FD.sCont_ap, FD.sIf_ap, FD.sSet_ap, FD.sSetL_ap, FD.sDrop_ap, FD.sRet_ap, FD.sRetN_ap, FD.sFor_ap, FD.sAsg_ap, FD.sRaise_ap, FD.sAppend_ap, FD.sSetIx_ap, FD.eC_ap, FD.eVar_0, FD.eVar_s, FD.e1_ap, FD.e2_ap, FD.t1_ap, FD.t2_ap, FD.eT_ap, FD.tAnd_ap, FD.tOr_ap, FD.tNot_ap, FD.eIf_ap, FD.aNil_ap, FD.aCons_ap, FD.eTup_ap, FD.lLst_ap, FD.eL_ap, FD.eB_ap, FD.eCallR_ap, FD.eAnd_ap, FD.eOr_ap, FD.eNot_ap, FD.eChain_ap, FD.oSeq_ap, FD.oRange_ap, FD.oNone_ap, FD.oInt_ap, FD.lCut_ap, FD.gCutL_lst, FD.gCutL_fls, FD.frzD_int, FD.frzD_bl, FD.frzD_str, FD.frzD_non, FD.frzD_nil, FD.frzD_lst, FD.frzD_fls, FD.outS_nx, FD.outS_rt, FD.outS_exc, FD.runD_eq, FD.Out.bind_ok, FD.Out.bind_exc, FD.Out.bind_bad, FD.stE_ok, FD.stE_exc, FD.stE_bad, FD.andThen_nx, FD.andThen_bk, FD.andThen_ct, FD.andThen_rt, FD.andThen_exc, FD.andThen_bad, FD.ofO_some, FD.ofO_none, FD.Lo.d_sh, FD.Lo.d_ol, FD.Lo.d_od, FD.frz_nil, FD.frz_cons, FD.frz1_0, FD.frz1_n, FD.frz1_s, FD.uName_ap, FD.uTup_ap, FD.uCons_ap, FD.uNil_ap, FD.turn_nx, FD.turn_ct, FD.turn_bk, FD.turn_rt, FD.turn_exc, FD.forD_nil, FD.forD_n, FD.atI_0, FD.atI_1, FD.atI_2, FD.atI_3, FD.unset_rt, FD.unset_nx, FD.unset_bk, FD.unset_ct, Option.bind_some, Option.map_some, FD.gI_int, FD.gI0_int, FD.cI_int, FD.gAdd_int, FD.gNeg_int, FD.eqD_int, FD.eqD_str, FD.eqD_bl, FD.eqD_non, FD.neg2_eq, FD.blD_bl, FD.truD_non, FD.truD_bl, FD.truD_int, FD.truD_tup, FD.truD_lst, FD.truD_fls, FD.truD_dic, FD.Dt.seq_tup, FD.Dt.seq_lst, FD.Dt.seq_fls, FD.gLen_tup, FD.gLen_lst, FD.gLen_fls, FD.gInt_int, FD.gInt_bl, FD.gAbs_int, FD.gGcd_int, FD.gIx_tup, FD.gIx_lst, FD.gIx_fls, FD.isi_int_int, FD.isi_int_bool, FD.isi_bool_int, FD.isi_bool_bool, FD.isi_tup, FD.isi_lst, List.map_cons, List.map_nil, List.length_cons, List.length_nil, List.cons_append, List.nil_append, List.set_cons_zero, List.set_cons_succ, List.getElem?_cons_zero, List.getElem?_cons_succ, Nat.reduceAdd, Nat.reduceSub, Nat.zero_add, Nat.sub_self, List.replicate_zero, List.replicate_succ, Nat.reduceLeDiff, if_true, if_false, Bool.false_eq_true, Bool.not_true, Bool.not_false, decide_eq_true_eq, ix0, ix1, m1, e_exact (den0 a) (ha.2.mono (by decide))]
/-- the sign of a - b -/
def sg (a b : Rat) : Int := if a < b then -1 else if b < a then 1 else 0
theorem e_compared {a b : Rat} (ha : Bf 400 a) (hb : Bf 400 b) : m_compared K cs [fr a, fr b] = .ok (.int (sg a b)) := by
  unfold m_compared argN b_compared sg
  have m1 : mulB a.num (b.den : Int) = true := mulB_of ha.1 hb.2 (by decide)
  have m2 : mulB b.num (a.den : Int) = true := mulB_of hb.1 ha.2 (by decide)
  by_cases h : a < b
  · have h' := (Rat.lt_iff a b).mp h
    simp only [FD.sSeq_ap, FD.sNext_ap, FD.sBrk_ap, FD.sCont_ap, FD.sIf_ap, FD.sSet_ap, FD.sSetL_ap, FD.sDrop_ap, FD.sRet_ap, FD.sRetN_ap, FD.sFor_ap, FD.sAsg_ap, FD.sRaise_ap, FD.sAppend_ap, FD.sSetIx_ap, FD.eC_ap, FD.eVar_0, FD.eVar_s, FD.e1_ap, FD.e2_ap, FD.t1_ap, FD.t2_ap, FD.eT_ap, FD.tAnd_ap, FD.tOr_ap, FD.tNot_ap, FD.eIf_ap, FD.aNil_ap, FD.aCons_ap, FD.eTup_ap, FD.lLst_ap, FD.eL_ap, FD.eB_ap, FD.eCallR_ap, FD.eAnd_ap, FD.eOr_ap, FD.eNot_ap, FD.eChain_ap, FD.oSeq_ap, FD.oRange_ap, FD.oNone_ap, FD.oInt_ap, FD.lCut_ap, FD.gCutL_lst, FD.gCutL_fls, FD.frzD_int, FD.frzD_bl, FD.frzD_str, FD.frzD_non, FD.frzD_nil, FD.frzD_lst, FD.frzD_fls, FD.outS_nx, FD.outS_rt, FD.outS_exc, FD.runD_eq, FD.Out.bind_ok, FD.Out.bind_exc, FD.Out.bind_bad, FD.stE_ok, FD.stE_exc, FD.stE_bad, FD.andThen_nx, FD.andThen_bk, FD.andThen_ct, FD.andThen_rt, FD.andThen_exc, FD.andThen_bad, FD.ofO_some, FD.ofO_none, FD.Lo.d_sh, FD.Lo.d_ol, FD.Lo.d_od, FD.frz_nil, FD.frz_cons, FD.frz1_0, FD.frz1_n, FD.frz1_s, FD.uName_ap, FD.uTup_ap, FD.uCons_ap, FD.uNil_ap, FD.turn_nx, FD.turn_ct, FD.turn_bk, FD.turn_rt, FD.turn_exc, FD.forD_nil, FD.forD_n, FD.atI_0, FD.atI_1, FD.atI_2, FD.atI_3, FD.unset_rt, FD.unset_nx, FD.unset_bk, FD.unset_ct, Option.bind_some, Option.map_some, FD.gI_int, FD.gI0_int, FD.cI_int, FD.gAdd_int, FD.gNeg_int, FD.eqD_int, FD.eqD_str, FD.eqD_bl, FD.eqD_non, FD.neg2_eq, FD.blD_bl, FD.truD_non, FD.truD_bl, FD.truD_int, FD.truD_tup, FD.truD_lst, FD.truD_fls, FD.truD_dic, FD.Dt.seq_tup, FD.Dt.seq_lst, FD.Dt.seq_fls, FD.gLen_tup, FD.gLen_lst, FD.gLen_fls, FD.gInt_int, FD.gInt_bl, FD.gAbs_int, FD.gGcd_int, FD.gIx_tup, FD.gIx_lst, FD.gIx_fls, FD.isi_int_int, FD.isi_int_bool, FD.isi_bool_int, FD.isi_bool_bool, FD.isi_tup, FD.isi_lst, List.map_cons, List.map_nil, List.length_cons, List.length_nil, List.cons_append, List.nil_append, List.set_cons_zero, List.set_cons_succ, List.getElem?_cons_zero, List.getElem?_cons_succ, Nat.reduceAdd, Nat.reduceSub, Nat.zero_add, Nat.sub_self, List.replicate_zero, List.replicate_succ, Nat.reduceLeDiff, if_true, if_false, Bool.false_eq_true, Bool.not_true, Bool.not_false, decide_eq_true_eq, ix0, ix1, m1, m2, h, h', decide_true]
  · have h' : ¬ a.num * (b.den : Int) < b.num * (a.den : Int) := fun z => h ((Rat.lt_iff a b).mpr z)
    by_cases k : b < a
    · have k' := (Rat.lt_iff b a).mp k
      simp only [FD.sSeq_ap, FD.sNext_ap, FD.sBrk_ap, FD.sCont_ap, FD.sIf_ap, FD.sSet_ap, FD.sSetL_ap, FD.sDrop_ap, FD.sRet_ap, FD.sRetN_ap, FD.sFor_ap, FD.sAsg_ap, FD.sRaise_ap, FD.sAppend_ap, FD.sSetIx_ap, FD.eC_ap, FD.eVar_0, FD.eVar_s, FD.e1_ap, FD.e2_ap, FD.t1_ap, FD.t2_ap, FD.eT_ap, FD.tAnd_ap, FD.tOr_ap, FD.tNot_ap, FD.eIf_ap, FD.aNil_ap, FD.aCons_ap, FD.eTup_ap, FD.lLst_ap, FD.eL_ap, FD.eB_ap, FD.eCallR_ap, FD.eAnd_ap, FD.eOr_ap, FD.eNot_ap, FD.eChain_ap, FD.oSeq_ap, FD.oRange_ap, FD.oNone_ap, FD.oInt_ap, FD.lCut_ap, FD.gCutL_lst, FD.gCutL_fls, FD.frzD_int, FD.frzD_bl, FD.frzD_str, FD.frzD_non, FD.frzD_nil, FD.frzD_lst, FD.frzD_fls, FD.outS_nx, FD.outS_rt, FD.outS_exc, FD.runD_eq, FD.Out.bind_ok, FD.Out.bind_exc, FD.Out.bind_bad, FD.stE_ok, FD.stE_exc, FD.stE_bad, FD.andThen_nx, FD.andThen_bk, FD.andThen_ct, FD.andThen_rt, FD.andThen_exc, FD.andThen_bad, FD.ofO_some, FD.ofO_none, FD.Lo.d_sh, FD.Lo.d_ol, FD.Lo.d_od, FD.frz_nil, FD.frz_cons, FD.frz1_0, FD.frz1_n, FD.frz1_s, FD.uName_ap, FD.uTup_ap, FD.uCons_ap, FD.uNil_ap, FD.turn_nx, FD.turn_ct, FD.turn_bk, FD.turn_rt, FD.turn_exc, FD.forD_nil, FD.forD_n, FD.atI_0, FD.atI_1, FD.atI_2, FD.atI_3, FD.unset_rt, FD.unset_nx, FD.unset_bk, FD.unset_ct, Option.bind_some, Option.map_some, FD.gI_int, FD.gI0_int, FD.cI_int, FD.gAdd_int, FD.gNeg_int, FD.eqD_int, FD.eqD_str, FD.eqD_bl, FD.eqD_non, FD.neg2_eq, FD.blD_bl, FD.truD_non, FD.truD_bl, FD.truD_int, FD.truD_tup, FD.truD_lst, FD.truD_fls, FD.truD_dic, FD.Dt.seq_tup, FD.Dt.seq_lst, FD.Dt.seq_fls, FD.gLen_tup, FD.gLen_lst, FD.gLen_fls, FD.gInt_int, FD.gInt_bl, FD.gAbs_int, FD.gGcd_int, FD.gIx_tup, FD.gIx_lst, FD.gIx_fls, FD.isi_int_int, FD.isi_int_bool, FD.isi_bool_int, FD.isi_bool_bool, FD.isi_tup, FD.isi_lst, List.map_cons, List.map_nil, List.length_cons, List.length_nil, List.cons_append, List.nil_append, List.set_cons_zero, List.set_cons_succ, List.getElem?_cons_zero, List.getElem?_cons_succ, Nat.reduceAdd, Nat.reduceSub, Nat.zero_add, Nat.sub_self, List.replicate_zero, List.replicate_succ, Nat.reduceLeDiff, if_true, if_false, Bool.false_eq_true, Bool.not_true, Bool.not_false, decide_eq_true_eq, ix0, ix1, m1, m2, h, h', k, k', decide_true, decide_false]
    · have k' : ¬ b.num * (a.den : Int) < a.num * (b.den : Int) := fun z => k ((Rat.lt_iff b a).mpr z)
      simp only [FD.sSeq_ap, FD.sNext_ap, FD.sBrk_ap, FD.sCont_ap, FD.sIf_ap, FD.sSet_ap, FD.sSetL_ap, FD.sDrop_ap, FD.sRet_ap, FD.sRetN_ap, FD.sFor_ap, FD.sAsg_ap, FD.sRaise_ap, FD.sAppend_ap, FD.sSetIx_ap, FD.eC_ap, FD.eVar_0, FD.eVar_s, FD.e1_ap, FD.e2_ap, FD.t1_ap, FD.t2_ap, FD.eT_ap, FD.tAnd_ap, FD.tOr_ap, FD.tNot_ap, FD.eIf_ap, FD.aNil_ap, FD.aCons_ap, FD.eTup_ap, FD.lLst_ap, FD.eL_ap, FD.eB_ap, FD.eCallR_ap, FD.eAnd_ap, FD.eOr_ap, FD.eNot_ap, FD.eChain_ap, FD.oSeq_ap, FD.oRange_ap, FD.oNone_ap, FD.oInt_ap, FD.lCut_ap, FD.gCutL_lst, FD.gCutL_fls, FD.frzD_int, FD.frzD_bl, FD.frzD_str, FD.frzD_non, FD.frzD_nil, FD.frzD_lst, FD.frzD_fls, FD.outS_nx, FD.outS_rt, FD.outS_exc, FD.runD_eq, FD.Out.bind_ok, FD.Out.bind_exc, FD.Out.bind_bad, FD.stE_ok, FD.stE_exc, FD.stE_bad, FD.andThen_nx, FD.andThen_bk, FD.andThen_ct, FD.andThen_rt, FD.andThen_exc, FD.andThen_bad, FD.ofO_some, FD.ofO_none, FD.Lo.d_sh, FD.Lo.d_ol, FD.Lo.d_od, FD.frz_nil, FD.frz_cons, FD.frz1_0, FD.frz1_n, FD.frz1_s, FD.uName_ap, FD.uTup_ap, FD.uCons_ap, FD.uNil_ap, FD.turn_nx, FD.turn_ct, FD.turn_bk, FD.turn_rt, FD.turn_exc, FD.forD_nil, FD.forD_n, FD.atI_0, FD.atI_1, FD.atI_2, FD.atI_3, FD.unset_rt, FD.unset_nx, FD.unset_bk, FD.unset_ct, Option.bind_some, Option.map_some, FD.gI_int, FD.gI0_int, FD.cI_int, FD.gAdd_int, FD.gNeg_int, FD.eqD_int, FD.eqD_str, FD.eqD_bl, FD.eqD_non, FD.neg2_eq, FD.blD_bl, FD.truD_non, FD.truD_bl, FD.truD_int, FD.truD_tup, FD.truD_lst, FD.truD_fls, FD.truD_dic, FD.Dt.seq_tup, FD.Dt.seq_lst, FD.Dt.seq_fls, FD.gLen_tup, FD.gLen_lst, FD.gLen_fls, FD.gInt_int, FD.gInt_bl, FD.gAbs_int, FD.gGcd_int, FD.gIx_tup, FD.gIx_lst, FD.gIx_fls, FD.isi_int_int, FD.isi_int_bool, FD.isi_bool_int, FD.isi_bool_bool, FD.isi_tup, FD.isi_lst, List.map_cons, List.map_nil, List.length_cons, List.length_nil, List.cons_append, List.nil_append, List.set_cons_zero, List.set_cons_succ, List.getElem?_cons_zero, List.getElem?_cons_succ, Nat.reduceAdd, Nat.reduceSub, Nat.zero_add, Nat.sub_self, List.replicate_zero, List.replicate_succ, Nat.reduceLeDiff, if_true, if_false, Bool.false_eq_true, Bool.not_true, Bool.not_false, decide_eq_true_eq, ix0, ix1, m1, m2, h, h', k, k', decide_true, decide_false]
theorem e_sign {a b : Rat} (ha : Bf 400 a) (hb : Bf 400 b) : m__law_sign K cs [fr a, fr b] = .ok (.int (sg a b)) := by
  unfold m__law_sign argN b__law_sign sg
  have m1 : mulB a.num (b.den : Int) = true := mulB_of ha.1 hb.2 (by decide)
  have m2 : mulB b.num (a.den : Int) = true := mulB_of hb.1 ha.2 (by decide)
  by_cases h : a < b
  · have h' := (Rat.lt_iff a b).mp h
    have p1 : ¬ (0 : Int) < a.num * (b.den : Int) - b.num * (a.den : Int) := by omega
    have p2 : a.num * (b.den : Int) - b.num * (a.den : Int) < 0 := by omega
    simp only [FD.sSeq_ap, FD.sNext_ap, FD.sBrk_ap, FD.sCont_ap, FD.sIf_ap, FD.sSet_ap, FD.sSetL_ap, FD.sDrop_ap, FD.sRet_ap, FD.sRetN_ap, FD.sFor_ap, FD.sAsg_ap, FD.sRaise_ap, FD.sAppend_ap, FD.sSetIx_ap, FD.eC_ap, FD.eVar_0, FD.eVar_s, FD.e1_ap, FD.e2_ap, FD.t1_ap, FD.t2_ap, FD.eT_ap, FD.tAnd_ap, FD.tOr_ap, FD.tNot_ap, FD.eIf_ap, FD.aNil_ap, FD.aCons_ap, FD.eTup_ap, FD.lLst_ap, FD.eL_ap, FD.eB_ap, FD.eCallR_ap, FD.eAnd_ap, FD.eOr_ap, FD.eNot_ap, FD.eChain_ap, FD.oSeq_ap, FD.oRange_ap, FD.oNone_ap, FD.oInt_ap, FD.lCut_ap, FD.gCutL_lst, FD.gCutL_fls, FD.frzD_int, FD.frzD_bl, FD.frzD_str, FD.frzD_non, FD.frzD_nil, FD.frzD_lst, FD.frzD_fls, FD.outS_nx, FD.outS_rt, FD.outS_exc, FD.runD_eq, FD.Out.bind_ok, FD.Out.bind_exc, FD.Out.bind_bad, FD.stE_ok, FD.stE_exc, FD.stE_bad, FD.andThen_nx, FD.andThen_bk, FD.andThen_ct, FD.andThen_rt, FD.andThen_exc, FD.andThen_bad, FD.ofO_some, FD.ofO_none, FD.Lo.d_sh, FD.Lo.d_ol, FD.Lo.d_od, FD.frz_nil, FD.frz_cons, FD.frz1_0, FD.frz1_n, FD.frz1_s, FD.uName_ap, FD.uTup_ap, FD.uCons_ap, FD.uNil_ap, FD.turn_nx, FD.turn_ct, FD.turn_bk, FD.turn_rt, FD.turn_exc, FD.forD_nil, FD.forD_n, FD.atI_0, FD.atI_1, FD.atI_2, FD.atI_3, FD.unset_rt, FD.unset_nx, FD.unset_bk, FD.unset_ct, Option.bind_some, Option.map_some, FD.gI_int, FD.gI0_int, FD.cI_int, FD.gAdd_int, FD.gNeg_int, FD.eqD_int, FD.eqD_str, FD.eqD_bl, FD.eqD_non, FD.neg2_eq, FD.blD_bl, FD.truD_non, FD.truD_bl, FD.truD_int, FD.truD_tup, FD.truD_lst, FD.truD_fls, FD.truD_dic, FD.Dt.seq_tup, FD.Dt.seq_lst, FD.Dt.seq_fls, FD.gLen_tup, FD.gLen_lst, FD.gLen_fls, FD.gInt_int, FD.gInt_bl, FD.gAbs_int, FD.gGcd_int, FD.gIx_tup, FD.gIx_lst, FD.gIx_fls, FD.isi_int_int, FD.isi_int_bool, FD.isi_bool_int, FD.isi_bool_bool, FD.isi_tup, FD.isi_lst, List.map_cons, List.map_nil, List.length_cons, List.length_nil, List.cons_append, List.nil_append, List.set_cons_zero, List.set_cons_succ, List.getElem?_cons_zero, List.getElem?_cons_succ, Nat.reduceAdd, Nat.reduceSub, Nat.zero_add, Nat.sub_self, List.replicate_zero, List.replicate_succ, Nat.reduceLeDiff, if_true, if_false, Bool.false_eq_true, Bool.not_true, Bool.not_false, decide_eq_true_eq, ix0, ix1, m1, m2, h, p1, p2, decide_true, decide_false]
    rfl
  · have h' : ¬ a.num * (b.den : Int) < b.num * (a.den : Int) := fun z => h ((Rat.lt_iff a b).mpr z)
    have p2 : ¬ a.num * (b.den : Int) - b.num * (a.den : Int) < 0 := by omega
    by_cases k : b < a
    · have k' := (Rat.lt_iff b a).mp k
      have p1 : (0 : Int) < a.num * (b.den : Int) - b.num * (a.den : Int) := by omega
      simp only [FD.sSeq_ap, FD.sNext_ap, FD.sBrk_ap, FD.sCont_ap, FD.sIf_ap, FD.sSet_ap, FD.sSetL_ap, FD.sDrop_ap, FD.sRet_ap, FD.sRetN_ap, FD.sFor_ap, FD.sAsg_ap, FD.sRaise_ap, FD.sAppend_ap, FD.sSetIx_ap, FD.eC_ap, FD.eVar_0, FD.eVar_s, FD.e1_ap, FD.e2_ap, FD.t1_ap, FD.t2_ap, FD.eT_ap, FD.tAnd_ap, FD.tOr_ap, FD.tNot_ap, FD.eIf_ap, FD.aNil_ap, FD.aCons_ap, FD.eTup_ap, FD.lLst_ap, FD.eL_ap, FD.eB_ap, FD.eCallR_ap, FD.eAnd_ap, FD.eOr_ap, FD.eNot_ap, FD.eChain_ap, FD.oSeq_ap, FD.oRange_ap, FD.oNone_ap, FD.oInt_ap, FD.lCut_ap, FD.gCutL_lst, FD.gCutL_fls, FD.frzD_int, FD.frzD_bl, FD.frzD_str, FD.frzD_non, FD.frzD_nil, FD.frzD_lst, FD.frzD_fls, FD.outS_nx, FD.outS_rt, FD.outS_exc, FD.runD_eq, FD.Out.bind_ok, FD.Out.bind_exc, FD.Out.bind_bad, FD.stE_ok, FD.stE_exc, FD.stE_bad, FD.andThen_nx, FD.andThen_bk, FD.andThen_ct, FD.andThen_rt, FD.andThen_exc, FD.andThen_bad, FD.ofO_some, FD.ofO_none, FD.Lo.d_sh, FD.Lo.d_ol, FD.Lo.d_od, FD.frz_nil, FD.frz_cons, FD.frz1_0, FD.frz1_n, FD.frz1_s, FD.uName_ap, FD.uTup_ap, FD.uCons_ap, FD.uNil_ap, FD.turn_nx, FD.turn_ct, FD.turn_bk, FD.turn_rt, FD.turn_exc, FD.forD_nil, FD.forD_n, FD.atI_0, FD.atI_1, FD.atI_2, FD.atI_3, FD.unset_rt, FD.unset_nx, FD.unset_bk, FD.unset_ct, Option.bind_some, Option.map_some, FD.gI_int, FD.gI0_int, FD.cI_int, FD.gAdd_int, FD.gNeg_int, FD.eqD_int, FD.eqD_str, FD.eqD_bl, FD.eqD_non, FD.neg2_eq, FD.blD_bl, FD.truD_non, FD.truD_bl, FD.truD_int, FD.truD_tup, FD.truD_lst, FD.truD_fls, FD.truD_dic, FD.Dt.seq_tup, FD.Dt.seq_lst, FD.Dt.seq_fls, FD.gLen_tup, FD.gLen_lst, FD.gLen_fls, FD.gInt_int, FD.gInt_bl, FD.gAbs_int, FD.gGcd_int, FD.gIx_tup, FD.gIx_lst, FD.gIx_fls, FD.isi_int_int, FD.isi_int_bool, FD.isi_bool_int, FD.isi_bool_bool, FD.isi_tup, FD.isi_lst, List.map_cons, List.map_nil, List.length_cons, List.length_nil, List.cons_append, List.nil_append, List.set_cons_zero, List.set_cons_succ, List.getElem?_cons_zero, List.getElem?_cons_succ, Nat.reduceAdd, Nat.reduceSub, Nat.zero_add, Nat.sub_self, List.replicate_zero, List.replicate_succ, Nat.reduceLeDiff, if_true, if_false, Bool.false_eq_true, Bool.not_true, Bool.not_false, decide_eq_true_eq, ix0, ix1, m1, m2, h, k, p1, p2, decide_true, decide_false]
      rfl
    · have k' : ¬ b.num * (a.den : Int) < a.num * (b.den : Int) := fun z => k ((Rat.lt_iff b a).mpr z)
      have p1 : ¬ (0 : Int) < a.num * (b.den : Int) - b.num * (a.den : Int) := by omega
      simp only [FD.sSeq_ap, FD.sNext_ap, FD.sBrk_ap, FD.sCont_ap, FD.sIf_ap, FD.sSet_ap, FD.sSetL_ap, FD.sDrop_ap, FD.sRet_ap, FD.sRetN_ap, FD.sFor_ap, FD.sAsg_ap, FD.sRaise_ap, FD.sAppend_ap, FD.sSetIx_ap, FD.eC_ap, FD.eVar_0, FD.eVar_s, FD.e1_ap, FD.e2_ap, FD.t1_ap, FD.t2_ap, FD.eT_ap, FD.tAnd_ap, FD.tOr_ap, FD.tNot_ap, FD.eIf_ap, FD.aNil_ap, FD.aCons_ap, FD.eTup_ap, FD.lLst_ap, FD.eL_ap, FD.eB_ap, FD.eCallR_ap, FD.eAnd_ap, FD.eOr_ap, FD.eNot_ap, FD.eChain_ap, FD.oSeq_ap, FD.oRange_ap, FD.oNone_ap, FD.oInt_ap, FD.lCut_ap, FD.gCutL_lst, FD.gCutL_fls, FD.frzD_int, FD.frzD_bl, FD.frzD_str, FD.frzD_non, FD.frzD_nil, FD.frzD_lst, FD.frzD_fls, FD.outS_nx, FD.outS_rt, FD.outS_exc, FD.runD_eq, FD.Out.bind_ok, FD.Out.bind_exc, FD.Out.bind_bad, FD.stE_ok, FD.stE_exc, FD.stE_bad, FD.andThen_nx, FD.andThen_bk, FD.andThen_ct, FD.andThen_rt, FD.andThen_exc, FD.andThen_bad, FD.ofO_some, FD.ofO_none, FD.Lo.d_sh, FD.Lo.d_ol, FD.Lo.d_od, FD.frz_nil, FD.frz_cons, FD.frz1_0, FD.frz1_n, FD.frz1_s, FD.uName_ap, FD.uTup_ap, FD.uCons_ap, FD.uNil_ap, FD.turn_nx, FD.turn_ct, FD.turn_bk, FD.turn_rt, FD.turn_exc, FD.forD_nil, FD.forD_n, FD.atI_0, FD.atI_1, FD.atI_2, FD.atI_3, FD.unset_rt, FD.unset_nx, FD.unset_bk, FD.unset_ct, Option.bind_some, Option.map_some, FD.gI_int, FD.gI0_int, FD.cI_int, FD.gAdd_int, FD.gNeg_int, FD.eqD_int, FD.eqD_str, FD.eqD_bl, FD.eqD_non, FD.neg2_eq, FD.blD_bl, FD.truD_non, FD.truD_bl, FD.truD_int, FD.truD_tup, FD.truD_lst, FD.truD_fls, FD.truD_dic, FD.Dt.seq_tup, FD.Dt.seq_lst, FD.Dt.seq_fls, FD.gLen_tup, FD.gLen_lst, FD.gLen_fls, FD.gInt_int, FD.gInt_bl, FD.gAbs_int, FD.gGcd_int, FD.gIx_tup, FD.gIx_lst, FD.gIx_fls, FD.isi_int_int, FD.isi_int_bool, FD.isi_bool_int, FD.isi_bool_bool, FD.isi_tup, FD.isi_lst, List.map_cons, List.map_nil, List.length_cons, List.length_nil, List.cons_append, List.nil_append, List.set_cons_zero, List.set_cons_succ, List.getElem?_cons_zero, List.getElem?_cons_succ, Nat.reduceAdd, Nat.reduceSub, Nat.zero_add, Nat.sub_self, List.replicate_zero, List.replicate_succ, Nat.reduceLeDiff, if_true, if_false, Bool.false_eq_true, Bool.not_true, Bool.not_false, decide_eq_true_eq, ix0, ix1, m1, m2, h, k, p1, p2, decide_true, decide_false]
      rfl
/-! ### the greatest, the least -/
def stG (best n : Rat) : Rat := if best < n then n else best
def stL (best n : Rat) : Rat := if n < best then n else best
theorem nlt {a b : Rat} (h : a < b) : ¬ b < a := by grind
theorem sg_pos {a b : Rat} : (0 < sg a b) ↔ b < a := by
  unfold sg
  split
  · rename_i h
    exact ⟨fun z => absurd z (by decide), fun z => absurd z (nlt h)⟩
  · split <;> simp_all
theorem sg_neg {a b : Rat} : (sg a b < 0) ↔ a < b := by
  unfold sg
  split
  · simp_all
  · split <;> simp_all
theorem sg_1 {a b : Rat} : (sg a b == 1) = decide (b < a) := by
  unfold sg
  split
  · rename_i h
    rw [decide_eq_false (nlt h)]
    rfl
  · split
    · rename_i h
      rw [decide_eq_true h]
      rfl
    · rename_i h
      rw [decide_eq_false h]
      rfl
theorem sg_m1 {a b : Rat} : (sg a b == -1) = decide (a < b) := by
  unfold sg
  split
  · rename_i h
    rw [decide_eq_true h]
    rfl
  · rename_i h
    rw [decide_eq_false h]
    split <;> rfl
theorem Bf_stG {a b : Rat} (ha : Bf 400 a) (hb : Bf 400 b) : Bf 400 (stG a b) := by unfold stG; split <;> assumption
theorem Bf_stL {a b : Rat} (ha : Bf 400 a) (hb : Bf 400 b) : Bf 400 (stL a b) := by unfold stL; split <;> assumption
theorem gr_loop : ∀ (qs : List Rat) (q : Rat) (x y z : Option Lo), Bf 400 q → (∀ q ∈ qs, Bf 400 q) → ∃ z', forD (uName 3) (sIf (t2 (eCallR (m_compared K cs) (aCons (eVar 3) (aCons (eVar 2) aNil))) (eC (.int 0)) (cI fun i j => decide (j < i))) (sSet 2 (eVar 3) [3]) sNext)
    (qs.map fr) [x, y, some (.sh (fr q)), z] = .ok .nx [x, y, some (.sh (fr (qs.foldl stG q))), z']
  | [], q, x, y, z, _, _ => ⟨z, rfl⟩
  | p :: qs, q, x, y, z, hq, hqs => by
    have hp := hqs p List.mem_cons_self
    obtain ⟨z', e⟩ := gr_loop qs (stG q p) x y (some (.sh (fr p))) (Bf_stG hq hp) (fun q h => hqs q (List.mem_cons_of_mem _ h))
    refine ⟨z', ?_⟩
    rw [List.map_cons]
    by_cases h : q < p
    · have e1 : stG q p = p := if_pos h
      rw [e1] at e
      simp only [FD.sSeq_ap, FD.sNext_ap, FD.sBrk_ap, FD.sCont_ap, FD.sIf_ap, FD.sSet_ap, FD.sSetL_ap, FD.sDrop_ap, FD.sRet_ap, FD.sRetN_ap, FD.sFor_ap, FD.sAsg_ap, FD.sRaise_ap, FD.sAppend_ap, FD.sSetIx_ap, FD.eC_ap, FD.eVar_0, FD.eVar_s, FD.e1_ap, FD.e2_ap, FD.t1_ap, FD.t2_ap, FD.eT_ap, FD.tAnd_ap, FD.tOr_ap, FD.tNot_ap, FD.eIf_ap, FD.aNil_ap, FD.aCons_ap, FD.eTup_ap, FD.lLst_ap, FD.eL_ap, FD.eB_ap, FD.eCallR_ap, FD.eAnd_ap, FD.eOr_ap, FD.eNot_ap, FD.eChain_ap, FD.oSeq_ap, FD.oRange_ap, FD.oNone_ap, FD.oInt_ap, FD.lCut_ap, FD.gCutL_lst, FD.gCutL_fls, FD.frzD_int, FD.frzD_bl, FD.frzD_str, FD.frzD_non, FD.frzD_nil, FD.frzD_lst, FD.frzD_fls, FD.outS_nx, FD.outS_rt, FD.outS_exc, FD.runD_eq, FD.Out.bind_ok, FD.Out.bind_exc, FD.Out.bind_bad, FD.stE_ok, FD.stE_exc, FD.stE_bad, FD.andThen_nx, FD.andThen_bk, FD.andThen_ct, FD.andThen_rt, FD.andThen_exc, FD.andThen_bad, FD.ofO_some, FD.ofO_none, FD.Lo.d_sh, FD.Lo.d_ol, FD.Lo.d_od, FD.frz_nil, FD.frz_cons, FD.frz1_0, FD.frz1_n, FD.frz1_s, FD.uName_ap, FD.uTup_ap, FD.uCons_ap, FD.uNil_ap, FD.turn_nx, FD.turn_ct, FD.turn_bk, FD.turn_rt, FD.turn_exc, FD.forD_nil, FD.forD_n, FD.atI_0, FD.atI_1, FD.atI_2, FD.atI_3, FD.unset_rt, FD.unset_nx, FD.unset_bk, FD.unset_ct, Option.bind_some, Option.map_some, FD.gI_int, FD.gI0_int, FD.cI_int, FD.gAdd_int, FD.gNeg_int, FD.eqD_int, FD.eqD_str, FD.eqD_bl, FD.eqD_non, FD.neg2_eq, FD.blD_bl, FD.truD_non, FD.truD_bl, FD.truD_int, FD.truD_tup, FD.truD_lst, FD.truD_fls, FD.truD_dic, FD.Dt.seq_tup, FD.Dt.seq_lst, FD.Dt.seq_fls, FD.gLen_tup, FD.gLen_lst, FD.gLen_fls, FD.gInt_int, FD.gInt_bl, FD.gAbs_int, FD.gGcd_int, FD.gIx_tup, FD.gIx_lst, FD.gIx_fls, FD.isi_int_int, FD.isi_int_bool, FD.isi_bool_int, FD.isi_bool_bool, FD.isi_tup, FD.isi_lst, List.map_cons, List.map_nil, List.length_cons, List.length_nil, List.cons_append, List.nil_append, List.set_cons_zero, List.set_cons_succ, List.getElem?_cons_zero, List.getElem?_cons_succ, Nat.reduceAdd, Nat.reduceSub, Nat.zero_add, Nat.sub_self, List.replicate_zero, List.replicate_succ, Nat.reduceLeDiff, if_true, if_false, Bool.false_eq_true, Bool.not_true, Bool.not_false, decide_eq_true_eq, e_compared hp hq, sg_pos, h, decide_true, frz_fr, e, List.foldl_cons, e1]
    · have e1 : stG q p = q := if_neg h
      rw [e1] at e
      simp only [FD.sSeq_ap, FD.sNext_ap, FD.sBrk_ap, FD.sCont_ap, FD.sIf_ap, FD.sSet_ap, FD.sSetL_ap, FD.sDrop_ap, FD.sRet_ap, FD.sRetN_ap, FD.sFor_ap, FD.sAsg_ap, FD.sRaise_ap, FD.sAppend_ap, FD.sSetIx_ap, FD.eC_ap, FD.eVar_0, FD.eVar_s, FD.e1_ap, FD.e2_ap, FD.t1_ap, FD.t2_ap, FD.eT_ap, FD.tAnd_ap, FD.tOr_ap, FD.tNot_ap, FD.eIf_ap, FD.aNil_ap, FD.aCons_ap, FD.eTup_ap, FD.lLst_ap, FD.eL_ap, FD.eB_ap, FD.eCallR_ap, FD.eAnd_ap, FD.eOr_ap, FD.eNot_ap, FD.eChain_ap, FD.oSeq_ap, FD.oRange_ap, FD.oNone_ap, FD.oInt_ap, FD.lCut_ap, FD.gCutL_lst, FD.gCutL_fls, FD.frzD_int, FD.frzD_bl, FD.frzD_str, FD.frzD_non, FD.frzD_nil, FD.frzD_lst, FD.frzD_fls, FD.outS_nx, FD.outS_rt, FD.outS_exc, FD.runD_eq, FD.Out.bind_ok, FD.Out.bind_exc, FD.Out.bind_bad, FD.stE_ok, FD.stE_exc, FD.stE_bad, FD.andThen_nx, FD.andThen_bk, FD.andThen_ct, FD.andThen_rt, FD.andThen_exc, FD.andThen_bad, FD.ofO_some, FD.ofO_none, FD.Lo.d_sh, FD.Lo.d_ol, FD.Lo.d_od, FD.frz_nil, FD.frz_cons, FD.frz1_0, FD.frz1_n, FD.frz1_s, FD.uName_ap, FD.uTup_ap, FD.uCons_ap, FD.uNil_ap, FD.turn_nx, FD.turn_ct, FD.turn_bk, FD.turn_rt, FD.turn_exc, FD.forD_nil, FD.forD_n, FD.atI_0, FD.atI_1, FD.atI_2, FD.atI_3, FD.unset_rt, FD.unset_nx, FD.unset_bk, FD.unset_ct, Option.bind_some, Option.map_some, FD.gI_int, FD.gI0_int, FD.cI_int, FD.gAdd_int, FD.gNeg_int, FD.eqD_int, FD.eqD_str, FD.eqD_bl, FD.eqD_non, FD.neg2_eq, FD.blD_bl, FD.truD_non, FD.truD_bl, FD.truD_int, FD.truD_tup, FD.truD_lst, FD.truD_fls, FD.truD_dic, FD.Dt.seq_tup, FD.Dt.seq_lst, FD.Dt.seq_fls, FD.gLen_tup, FD.gLen_lst, FD.gLen_fls, FD.gInt_int, FD.gInt_bl, FD.gAbs_int, FD.gGcd_int, FD.gIx_tup, FD.gIx_lst, FD.gIx_fls, FD.isi_int_int, FD.isi_int_bool, FD.isi_bool_int, FD.isi_bool_bool, FD.isi_tup, FD.isi_lst, List.map_cons, List.map_nil, List.length_cons, List.length_nil, List.cons_append, List.nil_append, List.set_cons_zero, List.set_cons_succ, List.getElem?_cons_zero, List.getElem?_cons_succ, Nat.reduceAdd, Nat.reduceSub, Nat.zero_add, Nat.sub_self, List.replicate_zero, List.replicate_succ, Nat.reduceLeDiff, if_true, if_false, Bool.false_eq_true, Bool.not_true, Bool.not_false, decide_eq_true_eq, e_compared hp hq, sg_pos, h, decide_false, frz_fr, e, List.foldl_cons, e1]
theorem ls_loop : ∀ (qs : List Rat) (q : Rat) (x y z : Option Lo), Bf 400 q → (∀ q ∈ qs, Bf 400 q) → ∃ z', forD (uName 3) (sIf (t2 (eCallR (m_compared K cs) (aCons (eVar 3) (aCons (eVar 2) aNil))) (eC (.int 0)) (cI fun i j => decide (i < j))) (sSet 2 (eVar 3) [3]) sNext)
    (qs.map fr) [x, y, some (.sh (fr q)), z] = .ok .nx [x, y, some (.sh (fr (qs.foldl stL q))), z']
  | [], q, x, y, z, _, _ => ⟨z, rfl⟩
  | p :: qs, q, x, y, z, hq, hqs => by
    have hp := hqs p List.mem_cons_self
    obtain ⟨z', e⟩ := ls_loop qs (stL q p) x y (some (.sh (fr p))) (Bf_stL hq hp) (fun q h => hqs q (List.mem_cons_of_mem _ h))
    refine ⟨z', ?_⟩
    rw [List.map_cons]
    by_cases h : p < q
    · have e1 : stL q p = p := if_pos h
      rw [e1] at e
      simp only [FD.sSeq_ap, FD.sNext_ap, FD.sBrk_ap, FD.sCont_ap, FD.sIf_ap, FD.sSet_ap, FD.sSetL_ap, FD.sDrop_ap, FD.sRet_ap, FD.sRetN_ap, FD.sFor_ap, FD.sAsg_ap, FD.sRaise_ap, FD.sAppend_ap, FD.sSetIx_ap, FD.eC_ap, FD.eVar_0, FD.eVar_s, FD.e1_ap, FD.e2_ap, FD.t1_ap, FD.t2_ap, FD.eT_ap, FD.tAnd_ap, FD.tOr_ap, FD.tNot_ap, FD.eIf_ap, FD.aNil_ap, FD.aCons_ap, FD.eTup_ap, FD.lLst_ap, FD.eL_ap, FD.eB_ap, FD.eCallR_ap, FD.eAnd_ap, FD.eOr_ap, FD.eNot_ap, FD.eChain_ap, FD.oSeq_ap, FD.oRange_ap, FD.oNone_ap, FD.oInt_ap, FD.lCut_ap, FD.gCutL_lst, FD.gCutL_fls, FD.frzD_int, FD.frzD_bl, FD.frzD_str, FD.frzD_non, FD.frzD_nil, FD.frzD_lst, FD.frzD_fls, FD.outS_nx, FD.outS_rt, FD.outS_exc, FD.runD_eq, FD.Out.bind_ok, FD.Out.bind_exc, FD.Out.bind_bad, FD.stE_ok, FD.stE_exc, FD.stE_bad, FD.andThen_nx, FD.andThen_bk, FD.andThen_ct, FD.andThen_rt, FD.andThen_exc, FD.andThen_bad, FD.ofO_some, FD.ofO_none, FD.Lo.d_sh, FD.Lo.d_ol, FD.Lo.d_od, FD.frz_nil, FD.frz_cons, FD.frz1_0, FD.frz1_n, FD.frz1_s, FD.uName_ap, FD.uTup_ap, FD.uCons_ap, FD.uNil_ap, FD.turn_nx, FD.turn_ct, FD.turn_bk, FD.turn_rt, FD.turn_exc, FD.forD_nil, FD.forD_n, FD.atI_0, FD.atI_1, FD.atI_2, FD.atI_3, FD.unset_rt, FD.unset_nx, FD.unset_bk, FD.unset_ct, Option.bind_some, Option.map_some, FD.gI_int, FD.gI0_int, FD.cI_int, FD.gAdd_int, FD.gNeg_int, FD.eqD_int, FD.eqD_str, FD.eqD_bl, FD.eqD_non, FD.neg2_eq, FD.blD_bl, FD.truD_non, FD.truD_bl, FD.truD_int, FD.truD_tup, FD.truD_lst, FD.truD_fls, FD.truD_dic, FD.Dt.seq_tup, FD.Dt.seq_lst, FD.Dt.seq_fls, FD.gLen_tup, FD.gLen_lst, FD.gLen_fls, FD.gInt_int, FD.gInt_bl, FD.gAbs_int, FD.gGcd_int, FD.gIx_tup, FD.gIx_lst, FD.gIx_fls, FD.isi_int_int, FD.isi_int_bool, FD.isi_bool_int, FD.isi_bool_bool, FD.isi_tup, FD.isi_lst, List.map_cons, List.map_nil, List.length_cons, List.length_nil, List.cons_append, List.nil_append, List.set_cons_zero, List.set_cons_succ, List.getElem?_cons_zero, List.getElem?_cons_succ, Nat.reduceAdd, Nat.reduceSub, Nat.zero_add, Nat.sub_self, List.replicate_zero, List.replicate_succ, Nat.reduceLeDiff, if_true, if_false, Bool.false_eq_true, Bool.not_true, Bool.not_false, decide_eq_true_eq, e_compared hp hq, sg_neg, h, decide_true, frz_fr, e, List.foldl_cons, e1]
    · have e1 : stL q p = q := if_neg h
      rw [e1] at e
      simp only [FD.sSeq_ap, FD.sNext_ap, FD.sBrk_ap, FD.sCont_ap, FD.sIf_ap, FD.sSet_ap, FD.sSetL_ap, FD.sDrop_ap, FD.sRet_ap, FD.sRetN_ap, FD.sFor_ap, FD.sAsg_ap, FD.sRaise_ap, FD.sAppend_ap, FD.sSetIx_ap, FD.eC_ap, FD.eVar_0, FD.eVar_s, FD.e1_ap, FD.e2_ap, FD.t1_ap, FD.t2_ap, FD.eT_ap, FD.tAnd_ap, FD.tOr_ap, FD.tNot_ap, FD.eIf_ap, FD.aNil_ap, FD.aCons_ap, FD.eTup_ap, FD.lLst_ap, FD.eL_ap, FD.eB_ap, FD.eCallR_ap, FD.eAnd_ap, FD.eOr_ap, FD.eNot_ap, FD.eChain_ap, FD.oSeq_ap, FD.oRange_ap, FD.oNone_ap, FD.oInt_ap, FD.lCut_ap, FD.gCutL_lst, FD.gCutL_fls, FD.frzD_int, FD.frzD_bl, FD.frzD_str, FD.frzD_non, FD.frzD_nil, FD.frzD_lst, FD.frzD_fls, FD.outS_nx, FD.outS_rt, FD.outS_exc, FD.runD_eq, FD.Out.bind_ok, FD.Out.bind_exc, FD.Out.bind_bad, FD.stE_ok, FD.stE_exc, FD.stE_bad, FD.andThen_nx, FD.andThen_bk, FD.andThen_ct, FD.andThen_rt, FD.andThen_exc, FD.andThen_bad, FD.ofO_some, FD.ofO_none, FD.Lo.d_sh, FD.Lo.d_ol, FD.Lo.d_od, FD.frz_nil, FD.frz_cons, FD.frz1_0, FD.frz1_n, FD.frz1_s, FD.uName_ap, FD.uTup_ap, FD.uCons_ap, FD.uNil_ap, FD.turn_nx, FD.turn_ct, FD.turn_bk, FD.turn_rt, FD.turn_exc, FD.forD_nil, FD.forD_n, FD.atI_0, FD.atI_1, FD.atI_2, FD.atI_3, FD.unset_rt, FD.unset_nx, FD.unset_bk, FD.unset_ct, Option.bind_some, Option.map_some, FD.gI_int, FD.gI0_int, FD.cI_int, FD.gAdd_int, FD.gNeg_int, FD.eqD_int, FD.eqD_str, FD.eqD_bl, FD.eqD_non, FD.neg2_eq, FD.blD_bl, FD.truD_non, FD.truD_bl, FD.truD_int, FD.truD_tup, FD.truD_lst, FD.truD_fls, FD.truD_dic, FD.Dt.seq_tup, FD.Dt.seq_lst, FD.Dt.seq_fls, FD.gLen_tup, FD.gLen_lst, FD.gLen_fls, FD.gInt_int, FD.gInt_bl, FD.gAbs_int, FD.gGcd_int, FD.gIx_tup, FD.gIx_lst, FD.gIx_fls, FD.isi_int_int, FD.isi_int_bool, FD.isi_bool_int, FD.isi_bool_bool, FD.isi_tup, FD.isi_lst, List.map_cons, List.map_nil, List.length_cons, List.length_nil, List.cons_append, List.nil_append, List.set_cons_zero, List.set_cons_succ, List.getElem?_cons_zero, List.getElem?_cons_succ, Nat.reduceAdd, Nat.reduceSub, Nat.zero_add, Nat.sub_self, List.replicate_zero, List.replicate_succ, Nat.reduceLeDiff, if_true, if_false, Bool.false_eq_true, Bool.not_true, Bool.not_false, decide_eq_true_eq, e_compared hp hq, sg_neg, h, decide_false, frz_fr, e, List.foldl_cons, e1]
theorem e_greatest {q : Rat} {qs : List Rat} (hq : Bf 400 q) (hqs : ∀ q ∈ qs, Bf 400 q) (hl : qs.length ≤ 15) : m_greatest_of K cs (fr q :: qs.map fr) = .ok (fr (qs.foldl stG q)) := by
  unfold m_greatest_of argS b_greatest_of
  obtain ⟨z', e⟩ := gr_loop (K := K) (cs := cs) qs q (some (.sh (fr q))) (some (.sh (.tup (qs.map fr)))) none hq hqs
  have hlen : 1 ≤ (fr q :: qs.map fr).length ∧ (fr q :: qs.map fr).length ≤ 16777216 := by rw [List.length_cons, List.length_map]; omega
  rw [if_pos hlen]
  simp only [FD.sSeq_ap, FD.sNext_ap, FD.sBrk_ap, FD.sCont_ap, FD.sIf_ap, FD.sSet_ap, FD.sSetL_ap, FD.sDrop_ap, FD.sRet_ap, FD.sRetN_ap, FD.sFor_ap, FD.sAsg_ap, FD.sRaise_ap, FD.sAppend_ap, FD.sSetIx_ap, FD.eC_ap, FD.eVar_0, FD.eVar_s, FD.e1_ap, FD.e2_ap, FD.t1_ap, FD.t2_ap, FD.eT_ap, FD.tAnd_ap, FD.tOr_ap, FD.tNot_ap, FD.eIf_ap, FD.aNil_ap, FD.aCons_ap, FD.eTup_ap, FD.lLst_ap, FD.eL_ap, FD.eB_ap, FD.eCallR_ap, FD.eAnd_ap, FD.eOr_ap, FD.eNot_ap, FD.eChain_ap, FD.oSeq_ap, FD.oRange_ap, FD.oNone_ap, FD.oInt_ap, FD.lCut_ap, FD.gCutL_lst, FD.gCutL_fls, FD.frzD_int, FD.frzD_bl, FD.frzD_str, FD.frzD_non, FD.frzD_nil, FD.frzD_lst, FD.frzD_fls, FD.outS_nx, FD.outS_rt, FD.outS_exc, FD.runD_eq, FD.Out.bind_ok, FD.Out.bind_exc, FD.Out.bind_bad, FD.stE_ok, FD.stE_exc, FD.stE_bad, FD.andThen_nx, FD.andThen_bk, FD.andThen_ct, FD.andThen_rt, FD.andThen_exc, FD.andThen_bad, FD.ofO_some, FD.ofO_none, FD.Lo.d_sh, FD.Lo.d_ol, FD.Lo.d_od, FD.frz_nil, FD.frz_cons, FD.frz1_0, FD.frz1_n, FD.frz1_s, FD.uName_ap, FD.uTup_ap, FD.uCons_ap, FD.uNil_ap, FD.turn_nx, FD.turn_ct, FD.turn_bk, FD.turn_rt, FD.turn_exc, FD.forD_nil, FD.forD_n, FD.atI_0, FD.atI_1, FD.atI_2, FD.atI_3, FD.unset_rt, FD.unset_nx, FD.unset_bk, FD.unset_ct, Option.bind_some, Option.map_some, FD.gI_int, FD.gI0_int, FD.cI_int, FD.gAdd_int, FD.gNeg_int, FD.eqD_int, FD.eqD_str, FD.eqD_bl, FD.eqD_non, FD.neg2_eq, FD.blD_bl, FD.truD_non, FD.truD_bl, FD.truD_int, FD.truD_tup, FD.truD_lst, FD.truD_fls, FD.truD_dic, FD.Dt.seq_tup, FD.Dt.seq_lst, FD.Dt.seq_fls, FD.gLen_tup, FD.gLen_lst, FD.gLen_fls, FD.gInt_int, FD.gInt_bl, FD.gAbs_int, FD.gGcd_int, FD.gIx_tup, FD.gIx_lst, FD.gIx_fls, FD.isi_int_int, FD.isi_int_bool, FD.isi_bool_int, FD.isi_bool_bool, FD.isi_tup, FD.isi_lst, List.map_cons, List.map_nil, List.length_cons, List.length_nil, List.cons_append, List.nil_append, List.set_cons_zero, List.set_cons_succ, List.getElem?_cons_zero, List.getElem?_cons_succ, Nat.reduceAdd, Nat.reduceSub, Nat.zero_add, Nat.sub_self, List.replicate_zero, List.replicate_succ, Nat.reduceLeDiff, if_true, if_false, Bool.false_eq_true, Bool.not_true, Bool.not_false, decide_eq_true_eq, List.take_succ_cons, List.take_zero, List.drop_succ_cons, List.drop_zero, frz_fr, e]
theorem e_least {q : Rat} {qs : List Rat} (hq : Bf 400 q) (hqs : ∀ q ∈ qs, Bf 400 q) (hl : qs.length ≤ 15) : m_least_of K cs (fr q :: qs.map fr) = .ok (fr (qs.foldl stL q)) := by
  unfold m_least_of argS b_least_of
  obtain ⟨z', e⟩ := ls_loop (K := K) (cs := cs) qs q (some (.sh (fr q))) (some (.sh (.tup (qs.map fr)))) none hq hqs
  have hlen : 1 ≤ (fr q :: qs.map fr).length ∧ (fr q :: qs.map fr).length ≤ 16777216 := by rw [List.length_cons, List.length_map]; omega
  rw [if_pos hlen]
  simp only [FD.sSeq_ap, FD.sNext_ap, FD.sBrk_ap, FD.sCont_ap, FD.sIf_ap, FD.sSet_ap, FD.sSetL_ap, FD.sDrop_ap, FD.sRet_ap, FD.sRetN_ap, FD.sFor_ap, FD.sAsg_ap, FD.sRaise_ap, FD.sAppend_ap, FD.sSetIx_ap, FD.eC_ap, FD.eVar_0, FD.eVar_s, FD.e1_ap, FD.e2_ap, FD.t1_ap, FD.t2_ap, FD.eT_ap, FD.tAnd_ap, FD.tOr_ap, FD.tNot_ap, FD.eIf_ap, FD.aNil_ap, FD.aCons_ap, FD.eTup_ap, FD.lLst_ap, FD.eL_ap, FD.eB_ap, FD.eCallR_ap, FD.eAnd_ap, FD.eOr_ap, FD.eNot_ap, FD.eChain_ap, FD.oSeq_ap, FD.oRange_ap, FD.oNone_ap, FD.oInt_ap, FD.lCut_ap, FD.gCutL_lst, FD.gCutL_fls, FD.frzD_int, FD.frzD_bl, FD.frzD_str, FD.frzD_non, FD.frzD_nil, FD.frzD_lst, FD.frzD_fls, FD.outS_nx, FD.outS_rt, FD.outS_exc, FD.runD_eq, FD.Out.bind_ok, FD.Out.bind_exc, FD.Out.bind_bad, FD.stE_ok, FD.stE_exc, FD.stE_bad, FD.andThen_nx, FD.andThen_bk, FD.andThen_ct, FD.andThen_rt, FD.andThen_exc, FD.andThen_bad, FD.ofO_some, FD.ofO_none, FD.Lo.d_sh, FD.Lo.d_ol, FD.Lo.d_od, FD.frz_nil, FD.frz_cons, FD.frz1_0, FD.frz1_n, FD.frz1_s, FD.uName_ap, FD.uTup_ap, FD.uCons_ap, FD.uNil_ap, FD.turn_nx, FD.turn_ct, FD.turn_bk, FD.turn_rt, FD.turn_exc, FD.forD_nil, FD.forD_n, FD.atI_0, FD.atI_1, FD.atI_2, FD.atI_3, FD.unset_rt, FD.unset_nx, FD.unset_bk, FD.unset_ct, Option.bind_some, Option.map_some, FD.gI_int, FD.gI0_int, FD.cI_int, FD.gAdd_int, FD.gNeg_int, FD.eqD_int, FD.eqD_str, FD.eqD_bl, FD.eqD_non, FD.neg2_eq, FD.blD_bl, FD.truD_non, FD.truD_bl, FD.truD_int, FD.truD_tup, FD.truD_lst, FD.truD_fls, FD.truD_dic, FD.Dt.seq_tup, FD.Dt.seq_lst, FD.Dt.seq_fls, FD.gLen_tup, FD.gLen_lst, FD.gLen_fls, FD.gInt_int, FD.gInt_bl, FD.gAbs_int, FD.gGcd_int, FD.gIx_tup, FD.gIx_lst, FD.gIx_fls, FD.isi_int_int, FD.isi_int_bool, FD.isi_bool_int, FD.isi_bool_bool, FD.isi_tup, FD.isi_lst, List.map_cons, List.map_nil, List.length_cons, List.length_nil, List.cons_append, List.nil_append, List.set_cons_zero, List.set_cons_succ, List.getElem?_cons_zero, List.getElem?_cons_succ, Nat.reduceAdd, Nat.reduceSub, Nat.zero_add, Nat.sub_self, List.replicate_zero, List.replicate_succ, Nat.reduceLeDiff, if_true, if_false, Bool.false_eq_true, Bool.not_true, Bool.not_false, decide_eq_true_eq, List.take_succ_cons, List.take_zero, List.drop_succ_cons, List.drop_zero, frz_fr, e]
theorem exG_loop : ∀ (qs : List Rat) (q : Rat) (x z : Option Lo), Bf 400 q → (∀ q ∈ qs, Bf 400 q) → ∃ z', forD (uName 3) (sIf (t2 (eCallR (m__law_sign K cs) (aCons (eVar 3) (aCons (eVar 2) aNil))) (eVar 1) eqD) (sSet 2 (eVar 3) [3]) sNext)
    (qs.map fr) [x, some (.sh (.int 1)), some (.sh (fr q)), z] = .ok .nx [x, some (.sh (.int 1)), some (.sh (fr (qs.foldl stG q))), z']
  | [], q, x, z, _, _ => ⟨z, rfl⟩
  | p :: qs, q, x, z, hq, hqs => by
    have hp := hqs p List.mem_cons_self
    obtain ⟨z', e⟩ := exG_loop qs (stG q p) x (some (.sh (fr p))) (Bf_stG hq hp) (fun q h => hqs q (List.mem_cons_of_mem _ h))
    refine ⟨z', ?_⟩
    rw [List.map_cons]
    by_cases h : q < p
    · have e1 : stG q p = p := if_pos h
      rw [e1] at e
      simp only [FD.sSeq_ap, FD.sNext_ap, FD.sBrk_ap, FD.sCont_ap, FD.sIf_ap, FD.sSet_ap, FD.sSetL_ap, FD.sDrop_ap, FD.sRet_ap, FD.sRetN_ap, FD.sFor_ap, FD.sAsg_ap, FD.sRaise_ap, FD.sAppend_ap, FD.sSetIx_ap, FD.eC_ap, FD.eVar_0, FD.eVar_s, FD.e1_ap, FD.e2_ap, FD.t1_ap, FD.t2_ap, FD.eT_ap, FD.tAnd_ap, FD.tOr_ap, FD.tNot_ap, FD.eIf_ap, FD.aNil_ap, FD.aCons_ap, FD.eTup_ap, FD.lLst_ap, FD.eL_ap, FD.eB_ap, FD.eCallR_ap, FD.eAnd_ap, FD.eOr_ap, FD.eNot_ap, FD.eChain_ap, FD.oSeq_ap, FD.oRange_ap, FD.oNone_ap, FD.oInt_ap, FD.lCut_ap, FD.gCutL_lst, FD.gCutL_fls, FD.frzD_int, FD.frzD_bl, FD.frzD_str, FD.frzD_non, FD.frzD_nil, FD.frzD_lst, FD.frzD_fls, FD.outS_nx, FD.outS_rt, FD.outS_exc, FD.runD_eq, FD.Out.bind_ok, FD.Out.bind_exc, FD.Out.bind_bad, FD.stE_ok, FD.stE_exc, FD.stE_bad, FD.andThen_nx, FD.andThen_bk, FD.andThen_ct, FD.andThen_rt, FD.andThen_exc, FD.andThen_bad, FD.ofO_some, FD.ofO_none, FD.Lo.d_sh, FD.Lo.d_ol, FD.Lo.d_od, FD.frz_nil, FD.frz_cons, FD.frz1_0, FD.frz1_n, FD.frz1_s, FD.uName_ap, FD.uTup_ap, FD.uCons_ap, FD.uNil_ap, FD.turn_nx, FD.turn_ct, FD.turn_bk, FD.turn_rt, FD.turn_exc, FD.forD_nil, FD.forD_n, FD.atI_0, FD.atI_1, FD.atI_2, FD.atI_3, FD.unset_rt, FD.unset_nx, FD.unset_bk, FD.unset_ct, Option.bind_some, Option.map_some, FD.gI_int, FD.gI0_int, FD.cI_int, FD.gAdd_int, FD.gNeg_int, FD.eqD_int, FD.eqD_str, FD.eqD_bl, FD.eqD_non, FD.neg2_eq, FD.blD_bl, FD.truD_non, FD.truD_bl, FD.truD_int, FD.truD_tup, FD.truD_lst, FD.truD_fls, FD.truD_dic, FD.Dt.seq_tup, FD.Dt.seq_lst, FD.Dt.seq_fls, FD.gLen_tup, FD.gLen_lst, FD.gLen_fls, FD.gInt_int, FD.gInt_bl, FD.gAbs_int, FD.gGcd_int, FD.gIx_tup, FD.gIx_lst, FD.gIx_fls, FD.isi_int_int, FD.isi_int_bool, FD.isi_bool_int, FD.isi_bool_bool, FD.isi_tup, FD.isi_lst, List.map_cons, List.map_nil, List.length_cons, List.length_nil, List.cons_append, List.nil_append, List.set_cons_zero, List.set_cons_succ, List.getElem?_cons_zero, List.getElem?_cons_succ, Nat.reduceAdd, Nat.reduceSub, Nat.zero_add, Nat.sub_self, List.replicate_zero, List.replicate_succ, Nat.reduceLeDiff, if_true, if_false, Bool.false_eq_true, Bool.not_true, Bool.not_false, decide_eq_true_eq, e_sign hp hq, sg_1, h, decide_true, frz_fr, e, List.foldl_cons, e1]
    · have e1 : stG q p = q := if_neg h
      rw [e1] at e
      simp only [FD.sSeq_ap, FD.sNext_ap, FD.sBrk_ap, FD.sCont_ap, FD.sIf_ap, FD.sSet_ap, FD.sSetL_ap, FD.sDrop_ap, FD.sRet_ap, FD.sRetN_ap, FD.sFor_ap, FD.sAsg_ap, FD.sRaise_ap, FD.sAppend_ap, FD.sSetIx_ap, FD.eC_ap, FD.eVar_0, FD.eVar_s, FD.e1_ap, FD.e2_ap, FD.t1_ap, FD.t2_ap, FD.eT_ap, FD.tAnd_ap, FD.tOr_ap, FD.tNot_ap, FD.eIf_ap, FD.aNil_ap, FD.aCons_ap, FD.eTup_ap, FD.lLst_ap, FD.eL_ap, FD.eB_ap, FD.eCallR_ap, FD.eAnd_ap, FD.eOr_ap, FD.eNot_ap, FD.eChain_ap, FD.oSeq_ap, FD.oRange_ap, FD.oNone_ap, FD.oInt_ap, FD.lCut_ap, FD.gCutL_lst, FD.gCutL_fls, FD.frzD_int, FD.frzD_bl, FD.frzD_str, FD.frzD_non, FD.frzD_nil, FD.frzD_lst, FD.frzD_fls, FD.outS_nx, FD.outS_rt, FD.outS_exc, FD.runD_eq, FD.Out.bind_ok, FD.Out.bind_exc, FD.Out.bind_bad, FD.stE_ok, FD.stE_exc, FD.stE_bad, FD.andThen_nx, FD.andThen_bk, FD.andThen_ct, FD.andThen_rt, FD.andThen_exc, FD.andThen_bad, FD.ofO_some, FD.ofO_none, FD.Lo.d_sh, FD.Lo.d_ol, FD.Lo.d_od, FD.frz_nil, FD.frz_cons, FD.frz1_0, FD.frz1_n, FD.frz1_s, FD.uName_ap, FD.uTup_ap, FD.uCons_ap, FD.uNil_ap, FD.turn_nx, FD.turn_ct, FD.turn_bk, FD.turn_rt, FD.turn_exc, FD.forD_nil, FD.forD_n, FD.atI_0, FD.atI_1, FD.atI_2, FD.atI_3, FD.unset_rt, FD.unset_nx, FD.unset_bk, FD.unset_ct, Option.bind_some, Option.map_some, FD.gI_int, FD.gI0_int, FD.cI_int, FD.gAdd_int, FD.gNeg_int, FD.eqD_int, FD.eqD_str, FD.eqD_bl, FD.eqD_non, FD.neg2_eq, FD.blD_bl, FD.truD_non, FD.truD_bl, FD.truD_int, FD.truD_tup, FD.truD_lst, FD.truD_fls, FD.truD_dic, FD.Dt.seq_tup, FD.Dt.seq_lst, FD.Dt.seq_fls, FD.gLen_tup, FD.gLen_lst, FD.gLen_fls, FD.gInt_int, FD.gInt_bl, FD.gAbs_int, FD.gGcd_int, FD.gIx_tup, FD.gIx_lst, FD.gIx_fls, FD.isi_int_int, FD.isi_int_bool, FD.isi_bool_int, FD.isi_bool_bool, FD.isi_tup, FD.isi_lst, List.map_cons, List.map_nil, List.length_cons, List.length_nil, List.cons_append, List.nil_append, List.set_cons_zero, List.set_cons_succ, List.getElem?_cons_zero, List.getElem?_cons_succ, Nat.reduceAdd, Nat.reduceSub, Nat.zero_add, Nat.sub_self, List.replicate_zero, List.replicate_succ, Nat.reduceLeDiff, if_true, if_false, Bool.false_eq_true, Bool.not_true, Bool.not_false, decide_eq_true_eq, e_sign hp hq, sg_1, h, decide_false, frz_fr, e, List.foldl_cons, e1]
theorem exL_loop : ∀ (qs : List Rat) (q : Rat) (x z : Option Lo), Bf 400 q → (∀ q ∈ qs, Bf 400 q) → ∃ z', forD (uName 3) (sIf (t2 (eCallR (m__law_sign K cs) (aCons (eVar 3) (aCons (eVar 2) aNil))) (eVar 1) eqD) (sSet 2 (eVar 3) [3]) sNext)
    (qs.map fr) [x, some (.sh (.int (-1))), some (.sh (fr q)), z] = .ok .nx [x, some (.sh (.int (-1))), some (.sh (fr (qs.foldl stL q))), z']
  | [], q, x, z, _, _ => ⟨z, rfl⟩
  | p :: qs, q, x, z, hq, hqs => by
    have hp := hqs p List.mem_cons_self
    obtain ⟨z', e⟩ := exL_loop qs (stL q p) x (some (.sh (fr p))) (Bf_stL hq hp) (fun q h => hqs q (List.mem_cons_of_mem _ h))
    refine ⟨z', ?_⟩
    rw [List.map_cons]
    by_cases h : p < q
    · have e1 : stL q p = p := if_pos h
      rw [e1] at e
      simp only [FD.sSeq_ap, FD.sNext_ap, FD.sBrk_ap, FD.sCont_ap, FD.sIf_ap, FD.sSet_ap, FD.sSetL_ap, FD.sDrop_ap, FD.sRet_ap, FD.sRetN_ap, FD.sFor_ap, FD.sAsg_ap, FD.sRaise_ap, FD.sAppend_ap, FD.sSetIx_ap, FD.eC_ap, FD.eVar_0, FD.eVar_s, FD.e1_ap, FD.e2_ap, FD.t1_ap, FD.t2_ap, FD.eT_ap, FD.tAnd_ap, FD.tOr_ap, FD.tNot_ap, FD.eIf_ap, FD.aNil_ap, FD.aCons_ap, FD.eTup_ap, FD.lLst_ap, FD.eL_ap, FD.eB_ap, FD.eCallR_ap, FD.eAnd_ap, FD.eOr_ap, FD.eNot_ap, FD.eChain_ap, FD.oSeq_ap, FD.oRange_ap, FD.oNone_ap, FD.oInt_ap, FD.lCut_ap, FD.gCutL_lst, FD.gCutL_fls, FD.frzD_int, FD.frzD_bl, FD.frzD_str, FD.frzD_non, FD.frzD_nil, FD.frzD_lst, FD.frzD_fls, FD.outS_nx, FD.outS_rt, FD.outS_exc, FD.runD_eq, FD.Out.bind_ok, FD.Out.bind_exc, FD.Out.bind_bad, FD.stE_ok, FD.stE_exc, FD.stE_bad, FD.andThen_nx, FD.andThen_bk, FD.andThen_ct, FD.andThen_rt, FD.andThen_exc, FD.andThen_bad, FD.ofO_some, FD.ofO_none, FD.Lo.d_sh, FD.Lo.d_ol, FD.Lo.d_od, FD.frz_nil, FD.frz_cons, FD.frz1_0, FD.frz1_n, FD.frz1_s, FD.uName_ap, FD.uTup_ap, FD.uCons_ap, FD.uNil_ap, FD.turn_nx, FD.turn_ct, FD.turn_bk, FD.turn_rt, FD.turn_exc, FD.forD_nil, FD.forD_n, FD.atI_0, FD.atI_1, FD.atI_2, FD.atI_3, FD.unset_rt, FD.unset_nx, FD.unset_bk, FD.unset_ct, Option.bind_some, Option.map_some, FD.gI_int, FD.gI0_int, FD.cI_int, FD.gAdd_int, FD.gNeg_int, FD.eqD_int, FD.eqD_str, FD.eqD_bl, FD.eqD_non, FD.neg2_eq, FD.blD_bl, FD.truD_non, FD.truD_bl, FD.truD_int, FD.truD_tup, FD.truD_lst, FD.truD_fls, FD.truD_dic, FD.Dt.seq_tup, FD.Dt.seq_lst, FD.Dt.seq_fls, FD.gLen_tup, FD.gLen_lst, FD.gLen_fls, FD.gInt_int, FD.gInt_bl, FD.gAbs_int, FD.gGcd_int, FD.gIx_tup, FD.gIx_lst, FD.gIx_fls, FD.isi_int_int, FD.isi_int_bool, FD.isi_bool_int, FD.isi_bool_bool, FD.isi_tup, FD.isi_lst, List.map_cons, List.map_nil, List.length_cons, List.length_nil, List.cons_append, List.nil_append, List.set_cons_zero, List.set_cons_succ, List.getElem?_cons_zero, List.getElem?_cons_succ, Nat.reduceAdd, Nat.reduceSub, Nat.zero_add, Nat.sub_self, List.replicate_zero, List.replicate_succ, Nat.reduceLeDiff, if_true, if_false, Bool.false_eq_true, Bool.not_true, Bool.not_false, decide_eq_true_eq, e_sign hp hq, sg_m1, h, decide_true, frz_fr, e, List.foldl_cons, e1]
    · have e1 : stL q p = q := if_neg h
      rw [e1] at e
      simp only [FD.sSeq_ap, FD.sNext_ap, FD.sBrk_ap, FD.sCont_ap, FD.sIf_ap, FD.sSet_ap, FD.sSetL_ap, FD.sDrop_ap, FD.sRet_ap, FD.sRetN_ap, FD.sFor_ap, FD.sAsg_ap, FD.sRaise_ap, FD.sAppend_ap, FD.sSetIx_ap, FD.eC_ap, FD.eVar_0, FD.eVar_s, FD.e1_ap, FD.e2_ap, FD.t1_ap, FD.t2_ap, FD.eT_ap, FD.tAnd_ap, FD.tOr_ap, FD.tNot_ap, FD.eIf_ap, FD.aNil_ap, FD.aCons_ap, FD.eTup_ap, FD.lLst_ap, FD.eL_ap, FD.eB_ap, FD.eCallR_ap, FD.eAnd_ap, FD.eOr_ap, FD.eNot_ap, FD.eChain_ap, FD.oSeq_ap, FD.oRange_ap, FD.oNone_ap, FD.oInt_ap, FD.lCut_ap, FD.gCutL_lst, FD.gCutL_fls, FD.frzD_int, FD.frzD_bl, FD.frzD_str, FD.frzD_non, FD.frzD_nil, FD.frzD_lst, FD.frzD_fls, FD.outS_nx, FD.outS_rt, FD.outS_exc, FD.runD_eq, FD.Out.bind_ok, FD.Out.bind_exc, FD.Out.bind_bad, FD.stE_ok, FD.stE_exc, FD.stE_bad, FD.andThen_nx, FD.andThen_bk, FD.andThen_ct, FD.andThen_rt, FD.andThen_exc, FD.andThen_bad, FD.ofO_some, FD.ofO_none, FD.Lo.d_sh, FD.Lo.d_ol, FD.Lo.d_od, FD.frz_nil, FD.frz_cons, FD.frz1_0, FD.frz1_n, FD.frz1_s, FD.uName_ap, FD.uTup_ap, FD.uCons_ap, FD.uNil_ap, FD.turn_nx, FD.turn_ct, FD.turn_bk, FD.turn_rt, FD.turn_exc, FD.forD_nil, FD.forD_n, FD.atI_0, FD.atI_1, FD.atI_2, FD.atI_3, FD.unset_rt, FD.unset_nx, FD.unset_bk, FD.unset_ct, Option.bind_some, Option.map_some, FD.gI_int, FD.gI0_int, FD.cI_int, FD.gAdd_int, FD.gNeg_int, FD.eqD_int, FD.eqD_str, FD.eqD_bl, FD.eqD_non, FD.neg2_eq, FD.blD_bl, FD.truD_non, FD.truD_bl, FD.truD_int, FD.truD_tup, FD.truD_lst, FD.truD_fls, FD.truD_dic, FD.Dt.seq_tup, FD.Dt.seq_lst, FD.Dt.seq_fls, FD.gLen_tup, FD.gLen_lst, FD.gLen_fls, FD.gInt_int, FD.gInt_bl, FD.gAbs_int, FD.gGcd_int, FD.gIx_tup, FD.gIx_lst, FD.gIx_fls, FD.isi_int_int, FD.isi_int_bool, FD.isi_bool_int, FD.isi_bool_bool, FD.isi_tup, FD.isi_lst, List.map_cons, List.map_nil, List.length_cons, List.length_nil, List.cons_append, List.nil_append, List.set_cons_zero, List.set_cons_succ, List.getElem?_cons_zero, List.getElem?_cons_succ, Nat.reduceAdd, Nat.reduceSub, Nat.zero_add, Nat.sub_self, List.replicate_zero, List.replicate_succ, Nat.reduceLeDiff, if_true, if_false, Bool.false_eq_true, Bool.not_true, Bool.not_false, decide_eq_true_eq, e_sign hp hq, sg_m1, h, decide_false, frz_fr, e, List.foldl_cons, e1]
theorem e_exG {q : Rat} {qs : List Rat} (hq : Bf 400 q) (hqs : ∀ q ∈ qs, Bf 400 q) : m__law_extreme K cs [.lst (fr q :: qs.map fr), .int 1] = .ok (fr (qs.foldl stG q)) := by
  unfold m__law_extreme argN b__law_extreme
  obtain ⟨z', e⟩ := exG_loop (K := K) (cs := cs) (q :: qs) q (some (.sh (.lst (fr q :: qs.map fr)))) none hq (fun p hp => (List.mem_cons.mp hp).elim (fun z => by rw [z]; exact hq) (hqs p))
  have e1 : stG q q = q := by unfold stG; split <;> rfl
  rw [List.map_cons, List.foldl_cons, e1] at e
  simp only [FD.sSeq_ap, FD.sNext_ap, FD.sBrk_ap, FD.sCont_ap, FD.sIf_ap, FD.sSet_ap, FD.sSetL_ap, FD.sDrop_ap, FD.sRet_ap, FD.sRetN_ap, FD.sFor_ap, FD.sAsg_ap, FD.sRaise_ap, FD.sAppend_ap, FD.sSetIx_ap, FD.eC_ap, FD.eVar_0, FD.eVar_s, FD.e1_ap, FD.e2_ap, FD.t1_ap, FD.t2_ap, FD.eT_ap, FD.tAnd_ap, FD.tOr_ap, FD.tNot_ap, FD.eIf_ap, FD.aNil_ap, FD.aCons_ap, FD.eTup_ap, FD.lLst_ap, FD.eL_ap, FD.eB_ap, FD.eCallR_ap, FD.eAnd_ap, FD.eOr_ap, FD.eNot_ap, FD.eChain_ap, FD.oSeq_ap, FD.oRange_ap, FD.oNone_ap, FD.oInt_ap, FD.lCut_ap, FD.gCutL_lst, FD.gCutL_fls, FD.frzD_int, FD.frzD_bl, FD.frzD_str, FD.frzD_non, FD.frzD_nil, FD.frzD_lst, FD.frzD_fls, FD.outS_nx, FD.outS_rt, FD.outS_exc, FD.runD_eq, FD.Out.bind_ok, FD.Out.bind_exc, FD.Out.bind_bad, FD.stE_ok, FD.stE_exc, FD.stE_bad, FD.andThen_nx, FD.andThen_bk, FD.andThen_ct, FD.andThen_rt, FD.andThen_exc, FD.andThen_bad, FD.ofO_some, FD.ofO_none, FD.Lo.d_sh, FD.Lo.d_ol, FD.Lo.d_od, FD.frz_nil, FD.frz_cons, FD.frz1_0, FD.frz1_n, FD.frz1_s, FD.uName_ap, FD.uTup_ap, FD.uCons_ap, FD.uNil_ap, FD.turn_nx, FD.turn_ct, FD.turn_bk, FD.turn_rt, FD.turn_exc, FD.forD_nil, FD.forD_n, FD.atI_0, FD.atI_1, FD.atI_2, FD.atI_3, FD.unset_rt, FD.unset_nx, FD.unset_bk, FD.unset_ct, Option.bind_some, Option.map_some, FD.gI_int, FD.gI0_int, FD.cI_int, FD.gAdd_int, FD.gNeg_int, FD.eqD_int, FD.eqD_str, FD.eqD_bl, FD.eqD_non, FD.neg2_eq, FD.blD_bl, FD.truD_non, FD.truD_bl, FD.truD_int, FD.truD_tup, FD.truD_lst, FD.truD_fls, FD.truD_dic, FD.Dt.seq_tup, FD.Dt.seq_lst, FD.Dt.seq_fls, FD.gLen_tup, FD.gLen_lst, FD.gLen_fls, FD.gInt_int, FD.gInt_bl, FD.gAbs_int, FD.gGcd_int, FD.gIx_tup, FD.gIx_lst, FD.gIx_fls, FD.isi_int_int, FD.isi_int_bool, FD.isi_bool_int, FD.isi_bool_bool, FD.isi_tup, FD.isi_lst, List.map_cons, List.map_nil, List.length_cons, List.length_nil, List.cons_append, List.nil_append, List.set_cons_zero, List.set_cons_succ, List.getElem?_cons_zero, List.getElem?_cons_succ, Nat.reduceAdd, Nat.reduceSub, Nat.zero_add, Nat.sub_self, List.replicate_zero, List.replicate_succ, Nat.reduceLeDiff, if_true, if_false, Bool.false_eq_true, Bool.not_true, Bool.not_false, decide_eq_true_eq, e]
theorem e_exL {q : Rat} {qs : List Rat} (hq : Bf 400 q) (hqs : ∀ q ∈ qs, Bf 400 q) : m__law_extreme K cs [.lst (fr q :: qs.map fr), .int (-1)] = .ok (fr (qs.foldl stL q)) := by
  unfold m__law_extreme argN b__law_extreme
  obtain ⟨z', e⟩ := exL_loop (K := K) (cs := cs) (q :: qs) q (some (.sh (.lst (fr q :: qs.map fr)))) none hq (fun p hp => (List.mem_cons.mp hp).elim (fun z => by rw [z]; exact hq) (hqs p))
  have e1 : stL q q = q := by unfold stL; split <;> rfl
  rw [List.map_cons, List.foldl_cons, e1] at e
  simp only [FD.sSeq_ap, FD.sNext_ap, FD.sBrk_ap, FD.sCont_ap, FD.sIf_ap, FD.sSet_ap, FD.sSetL_ap, FD.sDrop_ap, FD.sRet_ap, FD.sRetN_ap, FD.sFor_ap, FD.sAsg_ap, FD.sRaise_ap, FD.sAppend_ap, FD.sSetIx_ap, FD.eC_ap, FD.eVar_0, FD.eVar_s, FD.e1_ap, FD.e2_ap, FD.t1_ap, FD.t2_ap, FD.eT_ap, FD.tAnd_ap, FD.tOr_ap, FD.tNot_ap, FD.eIf_ap, FD.aNil_ap, FD.aCons_ap, FD.eTup_ap, FD.lLst_ap, FD.eL_ap, FD.eB_ap, FD.eCallR_ap, FD.eAnd_ap, FD.eOr_ap, FD.eNot_ap, FD.eChain_ap, FD.oSeq_ap, FD.oRange_ap, FD.oNone_ap, FD.oInt_ap, FD.lCut_ap, FD.gCutL_lst, FD.gCutL_fls, FD.frzD_int, FD.frzD_bl, FD.frzD_str, FD.frzD_non, FD.frzD_nil, FD.frzD_lst, FD.frzD_fls, FD.outS_nx, FD.outS_rt, FD.outS_exc, FD.runD_eq, FD.Out.bind_ok, FD.Out.bind_exc, FD.Out.bind_bad, FD.stE_ok, FD.stE_exc, FD.stE_bad, FD.andThen_nx, FD.andThen_bk, FD.andThen_ct, FD.andThen_rt, FD.andThen_exc, FD.andThen_bad, FD.ofO_some, FD.ofO_none, FD.Lo.d_sh, FD.Lo.d_ol, FD.Lo.d_od, FD.frz_nil, FD.frz_cons, FD.frz1_0, FD.frz1_n, FD.frz1_s, FD.uName_ap, FD.uTup_ap, FD.uCons_ap, FD.uNil_ap, FD.turn_nx, FD.turn_ct, FD.turn_bk, FD.turn_rt, FD.turn_exc, FD.forD_nil, FD.forD_n, FD.atI_0, FD.atI_1, FD.atI_2, FD.atI_3, FD.unset_rt, FD.unset_nx, FD.unset_bk, FD.unset_ct, Option.bind_some, Option.map_some, FD.gI_int, FD.gI0_int, FD.cI_int, FD.gAdd_int, FD.gNeg_int, FD.eqD_int, FD.eqD_str, FD.eqD_bl, FD.eqD_non, FD.neg2_eq, FD.blD_bl, FD.truD_non, FD.truD_bl, FD.truD_int, FD.truD_tup, FD.truD_lst, FD.truD_fls, FD.truD_dic, FD.Dt.seq_tup, FD.Dt.seq_lst, FD.Dt.seq_fls, FD.gLen_tup, FD.gLen_lst, FD.gLen_fls, FD.gInt_int, FD.gInt_bl, FD.gAbs_int, FD.gGcd_int, FD.gIx_tup, FD.gIx_lst, FD.gIx_fls, FD.isi_int_int, FD.isi_int_bool, FD.isi_bool_int, FD.isi_bool_bool, FD.isi_tup, FD.isi_lst, List.map_cons, List.map_nil, List.length_cons, List.length_nil, List.cons_append, List.nil_append, List.set_cons_zero, List.set_cons_succ, List.getElem?_cons_zero, List.getElem?_cons_succ, Nat.reduceAdd, Nat.reduceSub, Nat.zero_add, Nat.sub_self, List.replicate_zero, List.replicate_succ, Nat.reduceLeDiff, if_true, if_false, Bool.false_eq_true, Bool.not_true, Bool.not_false, decide_eq_true_eq, e]
end Lk00

namespace Lk00
open PySem L2 FD
variable {K : PySem.W.Frag} {cs : Cs}
/-! ### floor and ceiling -/
theorem e_floor {a : Rat} (ha : Bf 400 a) : m_floor_of K cs [fr a] = .ok (.int (a.num.fdiv (a.den : Int))) := by
  unfold m_floor_of argN b_floor_of
  have q : ∀ i, divB i (a.den : Int) = true := fun i => divB_of (den0 a) ha.2 (by decide)
  simp only [FD.sSeq_ap, FD.sNext_ap, FD.sBrk_ap, FD.sCont_ap, FD.sIf_ap, FD.sSet_ap, FD.sSetL_ap, FD.sDrop_ap, FD.sRet_ap, FD.sRetN_ap, FD.sFor_ap, FD.sAsg_ap, FD.sRaise_ap, FD.sAppend_ap, FD.sSetIx_ap, FD.eC_ap, FD.eVar_0, FD.eVar_s, FD.e1_ap, FD.e2_ap, FD.t1_ap, FD.t2_ap, FD.eT_ap, FD.tAnd_ap, FD.tOr_ap, FD.tNot_ap, FD.eIf_ap, FD.aNil_ap, FD.aCons_ap, FD.eTup_ap, FD.lLst_ap, FD.eL_ap, FD.eB_ap, FD.eCallR_ap, FD.eAnd_ap, FD.eOr_ap, FD.eNot_ap, FD.eChain_ap, FD.oSeq_ap, FD.oRange_ap, FD.oNone_ap, FD.oInt_ap, FD.lCut_ap, FD.gCutL_lst, FD.gCutL_fls, FD.frzD_int, FD.frzD_bl, FD.frzD_str, FD.frzD_non, FD.frzD_nil, FD.frzD_lst, FD.frzD_fls, FD.outS_nx, FD.outS_rt, FD.outS_exc, FD.runD_eq, FD.Out.bind_ok, FD.Out.bind_exc, FD.Out.bind_bad, FD.stE_ok, FD.stE_exc, FD.stE_bad, FD.andThen_nx, FD.andThen_bk, FD.andThen_ct, FD.andThen_rt, FD.andThen_exc, FD.andThen_bad, FD.ofO_some, FD.ofO_none, FD.Lo.d_sh, FD.Lo.d_ol, FD.Lo.d_od, FD.frz_nil, FD.frz_cons, FD.frz1_0, FD.frz1_n, FD.frz1_s, FD.uName_ap, FD.uTup_ap, FD.uCons_ap, FD.uNil_ap, FD.turn_nx, FD.turn_ct, FD.turn_bk, FD.turn_rt, FD.turn_exc, FD.forD_nil, FD.forD_n, FD.atI_0, FD.atI_1, FD.atI_2, FD.atI_3, FD.unset_rt, FD.unset_nx, FD.unset_bk, FD.unset_ct, Option.bind_some, Option.map_some, FD.gI_int, FD.gI0_int, FD.cI_int, FD.gAdd_int, FD.gNeg_int, FD.eqD_int, FD.eqD_str, FD.eqD_bl, FD.eqD_non, FD.neg2_eq, FD.blD_bl, FD.truD_non, FD.truD_bl, FD.truD_int, FD.truD_tup, FD.truD_lst, FD.truD_fls, FD.truD_dic, FD.Dt.seq_tup, FD.Dt.seq_lst, FD.Dt.seq_fls, FD.gLen_tup, FD.gLen_lst, FD.gLen_fls, FD.gInt_int, FD.gInt_bl, FD.gAbs_int, FD.gGcd_int, FD.gIx_tup, FD.gIx_lst, FD.gIx_fls, FD.isi_int_int, FD.isi_int_bool, FD.isi_bool_int, FD.isi_bool_bool, FD.isi_tup, FD.isi_lst, List.map_cons, List.map_nil, List.length_cons, List.length_nil, List.cons_append, List.nil_append, List.set_cons_zero, List.set_cons_succ, List.getElem?_cons_zero, List.getElem?_cons_succ, Nat.reduceAdd, Nat.reduceSub, Nat.zero_add, Nat.sub_self, List.replicate_zero, List.replicate_succ, Nat.reduceLeDiff, if_true, if_false, Bool.false_eq_true, Bool.not_true, Bool.not_false, decide_eq_true_eq, ix0, ix1, q]
theorem e_ceiling {a : Rat} (ha : Bf 400 a) : m_ceiling_of K cs [fr a] = .ok (.int (-((-a.num).fdiv (a.den : Int)))) := by
  unfold m_ceiling_of argN b_ceiling_of
  have q : ∀ i, divB i (a.den : Int) = true := fun i => divB_of (den0 a) ha.2 (by decide)
  simp only [FD.sSeq_ap, FD.sNext_ap, FD.sBrk_ap, FD.sCont_ap, FD.sIf_ap, FD.sSet_ap, FD.sSetL_ap, FD.sDrop_ap, FD.sRet_ap, FD.sRetN_ap, FD.sFor_ap, FD.sAsg_ap, FD.sRaise_ap, FD.sAppend_ap, FD.sSetIx_ap, FD.eC_ap, FD.eVar_0, FD.eVar_s, FD.e1_ap, FD.e2_ap, FD.t1_ap, FD.t2_ap, FD.eT_ap, FD.tAnd_ap, FD.tOr_ap, FD.tNot_ap, FD.eIf_ap, FD.aNil_ap, FD.aCons_ap, FD.eTup_ap, FD.lLst_ap, FD.eL_ap, FD.eB_ap, FD.eCallR_ap, FD.eAnd_ap, FD.eOr_ap, FD.eNot_ap, FD.eChain_ap, FD.oSeq_ap, FD.oRange_ap, FD.oNone_ap, FD.oInt_ap, FD.lCut_ap, FD.gCutL_lst, FD.gCutL_fls, FD.frzD_int, FD.frzD_bl, FD.frzD_str, FD.frzD_non, FD.frzD_nil, FD.frzD_lst, FD.frzD_fls, FD.outS_nx, FD.outS_rt, FD.outS_exc, FD.runD_eq, FD.Out.bind_ok, FD.Out.bind_exc, FD.Out.bind_bad, FD.stE_ok, FD.stE_exc, FD.stE_bad, FD.andThen_nx, FD.andThen_bk, FD.andThen_ct, FD.andThen_rt, FD.andThen_exc, FD.andThen_bad, FD.ofO_some, FD.ofO_none, FD.Lo.d_sh, FD.Lo.d_ol, FD.Lo.d_od, FD.frz_nil, FD.frz_cons, FD.frz1_0, FD.frz1_n, FD.frz1_s, FD.uName_ap, FD.uTup_ap, FD.uCons_ap, FD.uNil_ap, FD.turn_nx, FD.turn_ct, FD.turn_bk, FD.turn_rt, FD.turn_exc, FD.forD_nil, FD.forD_n, FD.atI_0, FD.atI_1, FD.atI_2, FD.atI_3, FD.unset_rt, FD.unset_nx, FD.unset_bk, FD.unset_ct, Option.bind_some, Option.map_some, FD.gI_int, FD.gI0_int, FD.cI_int, FD.gAdd_int, FD.gNeg_int, FD.eqD_int, FD.eqD_str, FD.eqD_bl, FD.eqD_non, FD.neg2_eq, FD.blD_bl, FD.truD_non, FD.truD_bl, FD.truD_int, FD.truD_tup, FD.truD_lst, FD.truD_fls, FD.truD_dic, FD.Dt.seq_tup, FD.Dt.seq_lst, FD.Dt.seq_fls, FD.gLen_tup, FD.gLen_lst, FD.gLen_fls, FD.gInt_int, FD.gInt_bl, FD.gAbs_int, FD.gGcd_int, FD.gIx_tup, FD.gIx_lst, FD.gIx_fls, FD.isi_int_int, FD.isi_int_bool, FD.isi_bool_int, FD.isi_bool_bool, FD.isi_tup, FD.isi_lst, List.map_cons, List.map_nil, List.length_cons, List.length_nil, List.cons_append, List.nil_append, List.set_cons_zero, List.set_cons_succ, List.getElem?_cons_zero, List.getElem?_cons_succ, Nat.reduceAdd, Nat.reduceSub, Nat.zero_add, Nat.sub_self, List.replicate_zero, List.replicate_succ, Nat.reduceLeDiff, if_true, if_false, Bool.false_eq_true, Bool.not_true, Bool.not_false, decide_eq_true_eq, ix0, ix1, q]
theorem fdiv_le (n : Int) {d : Int} (hd : 0 < d) : n.fdiv d * d ≤ n ∧ n < (n.fdiv d + 1) * d := by
  have h1 := Int.mul_fdiv_add_fmod n d
  have h2 := Int.fmod_nonneg_of_pos n hd
  have h3 := Int.fmod_lt_of_pos n hd
  rw [Int.add_mul, Int.one_mul]
  rw [Int.mul_comm] at h1
  omega
theorem bd_fdiv {n d : Int} {m : Nat} (hd : 0 < d) (h : Bd m n) : Bd (m + 1) (n.fdiv d) := by
  obtain ⟨h1, h2⟩ := fdiv_le n hd
  unfold Bd at *
  rw [Nat.pow_succ]
  have hp : 0 < 2 ^ m := Nat.pow_pos (by decide)
  by_cases hq : 0 ≤ n.fdiv d
  · have : n.fdiv d ≤ n.fdiv d * d := by
      have z := Int.mul_le_mul_of_nonneg_left (show (1 : Int) ≤ d by omega) hq
      omega
    omega
  · have : (n.fdiv d + 1) * d ≤ (n.fdiv d + 1) * 1 := Int.mul_le_mul_of_nonpos_left (by omega) (by omega)
    omega
theorem e_steps {a : Rat} (ha : Bf 400 a) : m__law_steps K cs [fr a] = .ok (.bl true) := by
  unfold m__law_steps argN b__law_steps
  have dp : 0 < (a.den : Int) := by have := a.den_pos; omega
  obtain ⟨f1, f2⟩ := fdiv_le a.num dp
  obtain ⟨g1, g2⟩ := fdiv_le (-a.num) dp
  have b1 := bd_fdiv dp ha.1
  have b2 := (bd_fdiv dp ha.1.neg).neg
  have one : Bd 1 1 := by unfold Bd; decide
  have m1 : mulB (a.num.fdiv (a.den : Int)) (a.den : Int) = true := mulB_of b1 ha.2 (by decide)
  have m2 : mulB (a.num.fdiv (a.den : Int) + 1) (a.den : Int) = true := mulB_of (b1.add one) ha.2 (by decide)
  have m3 : mulB (-((-a.num).fdiv (a.den : Int)) - 1) (a.den : Int) = true := mulB_of (b2.sub one) ha.2 (by decide)
  have m4 : mulB (-((-a.num).fdiv (a.den : Int))) (a.den : Int) = true := mulB_of b2 ha.2 (by decide)
  have g3 : (-((-a.num).fdiv (a.den : Int)) - 1) * (a.den : Int) < a.num := by
    have e : (-((-a.num).fdiv (a.den : Int)) - 1) * (a.den : Int) = -(((-a.num).fdiv (a.den : Int) + 1) * (a.den : Int)) := by rw [← Int.neg_mul]; congr 1; omega
    rw [e]
    omega
  have g4 : a.num ≤ -((-a.num).fdiv (a.den : Int)) * (a.den : Int) := by
    rw [Int.neg_mul]
    omega
  simp only [FD.sSeq_ap, FD.sNext_ap, FD.sBrk_ap, FD.sCont_ap, FD.sIf_ap, FD.sSet_ap, FD.sSetL_ap, FD.sDrop_ap, FD.sRet_ap, FD.sRetN_ap, FD.sFor_ap, FD.sAsg_ap, FD.sRaise_ap, FD.sAppend_ap, FD.sSetIx_ap, FD.eC_ap, FD.eVar_0, FD.eVar_s, FD.e1_ap, FD.e2_ap, FD.t1_ap, FD.t2_ap, FD.eT_ap, FD.tAnd_ap, FD.tOr_ap, FD.tNot_ap, FD.eIf_ap, FD.aNil_ap, FD.aCons_ap, FD.eTup_ap, FD.lLst_ap, FD.eL_ap, FD.eB_ap, FD.eCallR_ap, FD.eAnd_ap, FD.eOr_ap, FD.eNot_ap, FD.eChain_ap, FD.oSeq_ap, FD.oRange_ap, FD.oNone_ap, FD.oInt_ap, FD.lCut_ap, FD.gCutL_lst, FD.gCutL_fls, FD.frzD_int, FD.frzD_bl, FD.frzD_str, FD.frzD_non, FD.frzD_nil, FD.frzD_lst, FD.frzD_fls, FD.outS_nx, FD.outS_rt, FD.outS_exc, FD.runD_eq, FD.Out.bind_ok, FD.Out.bind_exc, FD.Out.bind_bad, FD.stE_ok, FD.stE_exc, FD.stE_bad, FD.andThen_nx, FD.andThen_bk, FD.andThen_ct, FD.andThen_rt, FD.andThen_exc, FD.andThen_bad, FD.ofO_some, FD.ofO_none, FD.Lo.d_sh, FD.Lo.d_ol, FD.Lo.d_od, FD.frz_nil, FD.frz_cons, FD.frz1_0, FD.frz1_n, FD.frz1_s, FD.uName_ap, FD.uTup_ap, FD.uCons_ap, FD.uNil_ap, FD.turn_nx, FD.turn_ct, FD.turn_bk, FD.turn_rt, FD.turn_exc, FD.forD_nil, FD.forD_n, FD.atI_0, FD.atI_1, FD.atI_2, FD.atI_3, FD.unset_rt, FD.unset_nx, FD.unset_bk, FD.unset_ct, Option.bind_some, Option.map_some, FD.gI_int, FD.gI0_int, FD.cI_int, FD.gAdd_int, FD.gNeg_int, FD.eqD_int, FD.eqD_str, FD.eqD_bl, FD.eqD_non, FD.neg2_eq, FD.blD_bl, FD.truD_non, FD.truD_bl, FD.truD_int, FD.truD_tup, FD.truD_lst, FD.truD_fls, FD.truD_dic, FD.Dt.seq_tup, FD.Dt.seq_lst, FD.Dt.seq_fls, FD.gLen_tup, FD.gLen_lst, FD.gLen_fls, FD.gInt_int, FD.gInt_bl, FD.gAbs_int, FD.gGcd_int, FD.gIx_tup, FD.gIx_lst, FD.gIx_fls, FD.isi_int_int, FD.isi_int_bool, FD.isi_bool_int, FD.isi_bool_bool, FD.isi_tup, FD.isi_lst, List.map_cons, List.map_nil, List.length_cons, List.length_nil, List.cons_append, List.nil_append, List.set_cons_zero, List.set_cons_succ, List.getElem?_cons_zero, List.getElem?_cons_succ, Nat.reduceAdd, Nat.reduceSub, Nat.zero_add, Nat.sub_self, List.replicate_zero, List.replicate_succ, Nat.reduceLeDiff, if_true, if_false, Bool.false_eq_true, Bool.not_true, Bool.not_false, decide_eq_true_eq, e_floor ha, e_ceiling ha, e_is_integer, ix0, ix1, m1, m2, m3, m4, f1, f2, g3, g4, decide_true]
/-! ### the sums -/
theorem cast_den (a : Rat) : (((a.den : Nat) : Int) : Rat) ≠ 0 := by
  intro z
  have z2 : (((a.den : Nat) : Int) : Rat) = ((0 : Int) : Rat) := z
  rw [Rat.intCast_inj] at z2
  have := a.den_pos
  omega
theorem cast_num (a : Rat) : (a.num : Rat) = a * (((a.den : Nat) : Int) : Rat) := by
  have h : a = (a.num : Rat) / (((a.den : Nat) : Int) : Rat) := by rw [← Rat.divInt_eq_div, Rat.num_divInt_den]
  have d := cast_den a
  generalize (a.num : Rat) = x at *
  generalize (((a.den : Nat) : Int) : Rat) = y at *
  subst h
  grind
theorem one_mul' (q : Rat) (n d : Int) (hd : (d : Rat) ≠ 0) (h : (n : Rat) = q * d) : q = Rat.divInt n d := by
  rw [Rat.divInt_eq_div, h]
  grind
theorem e_sums {a b c : Rat} {k : Int} (ha : Bf 140 a) (hb : Bf 140 b) (hc : Bf 140 c) (hk : Bd 140 k) : m__law_sums K cs [fr a, fr b, fr c, .int k] = .ok (.bl true) := by
  unfold m__law_sums argN b__law_sums
  have A : Bf 400 a := ⟨ha.1.mono (by decide), ha.2.mono (by decide)⟩
  have B : Bf 400 b := ⟨hb.1.mono (by decide), hb.2.mono (by decide)⟩
  have C : Bf 400 c := ⟨hc.1.mono (by decide), hc.2.mono (by decide)⟩
  have k4 : Bd 400 k := hk.mono (by decide)
  have one : Bd 1 1 := by unfold Bd; decide
  have zero : Bd 1 0 := by unfold Bd; decide
  have m1 : Bd 400 (-1) := (one.mono (by decide)).neg
  have da := cast_den a
  have db := cast_den b
  have dc := cast_den c
  have na := cast_num a
  have nb := cast_num b
  have nc := cast_num c
  have d1 : ((1 : Int) : Rat) ≠ 0 := by decide
  have zab := Int.mul_ne_zero (den0 a) (den0 b)
  have zabc := Int.mul_ne_zero zab (den0 c)
  have s0 := e_sum_of (K := K) (cs := cs) [] (by simp) (by decide)
  have s1 := e_sum_of (K := K) (cs := cs) [a] (by simpa using A) (by simp)
  have s2 := e_sum_of (K := K) (cs := cs) [a, b] (by simp [A, B]) (by simp)
  have s3 := e_sum_of (K := K) (cs := cs) [a, b, c] (by simp [A, B, C]) (by simp)
  have s7 := e_sum_of (K := K) (cs := cs) [c, b, a, b, c, b, a] (by simp [A, B, C]) (by simp)
  simp only [List.map_cons, List.map_nil, List.foldl_cons, List.foldl_nil] at s0 s1 s2 s3 s7
  have dab : (((a.den : Int) * (b.den : Int) : Int) : Rat) ≠ 0 := by rw [Rat.intCast_mul]; grind
  have dabc : (((a.den : Int) * (b.den : Int) * (c.den : Int) : Int) : Rat) ≠ 0 := by rw [Rat.intCast_mul]; grind
  have hq : ∀ (N D : Int), (D : Rat) ≠ 0 → (N : Rat) = Rat.divInt N D * D := fun N D h => by rw [Rat.divInt_eq_div]; grind
  have dba : (((b.den : Int) * (a.den : Int) : Int) : Rat) ≠ 0 := by rw [Rat.intCast_mul]; grind
  have z0 : ∀ D : Int, Rat.divInt 0 D = 0 := fun D => Rat.zero_divInt D
  have bab : Bd 440 ((a.den : Int) * (b.den : Int)) := (ha.2.mul hb.2).mono (by decide)
  have babc : Bd 440 ((a.den : Int) * (b.den : Int) * (c.den : Int)) := ((ha.2.mul hb.2).mul hc.2).mono (by decide)
  have bl : Bd 420 (a.num * (b.den : Int) * (c.den : Int)) := (ha.1.mul hb.2).mul hc.2
  have bm : Bd 420 (b.num * (a.den : Int) * (c.den : Int)) := (hb.1.mul ha.2).mul hc.2
  have br : Bd 420 (c.num * (a.den : Int) * (b.den : Int)) := (hc.1.mul ha.2).mul hb.2
  have b2 : Bd 2 2 := by unfold Bd; decide
  have b3 : Bd 2 3 := by unfold Bd; decide
  have r0 := e_right (K := K) (cs := cs) (q := 0) (n := 0) (d := 1) (z0 1).symm (by decide) (zero.mono (by decide)) (one.mono (by decide))
  have r1 := e_right (K := K) (cs := cs) (q := 0 + a) (n := a.num) (d := (a.den : Int)) (one_mul' _ _ _ (da) (by rw [na]; grind)) (den0 a) (ha.1.mono (by decide)) (ha.2.mono (by decide))
  have r2 := e_right (K := K) (cs := cs) (q := 0 + a + b) (n := a.num * (b.den : Int) + b.num * (a.den : Int)) (d := (a.den : Int) * (b.den : Int)) (one_mul' _ _ _ (dab) (by simp only [Rat.intCast_mul, Rat.intCast_add, Rat.intCast_sub, Rat.intCast_neg, na, nb, nc]; grind)) (zab) (((ha.1.mul hb.2).add (hb.1.mul ha.2)).mono (by decide)) (bab)
  have r3 := e_right (K := K) (cs := cs) (q := Rat.divInt (a.num * (b.den : Int) - b.num * (a.den : Int)) ((a.den : Int) * (b.den : Int))) (n := a.num * (b.den : Int) - b.num * (a.den : Int)) (d := (a.den : Int) * (b.den : Int)) rfl zab (((ha.1.mul hb.2).sub (hb.1.mul ha.2)).mono (by decide)) bab
  have r4 := e_right (K := K) (cs := cs) (q := Rat.divInt (b.num * (a.den : Int) - a.num * (b.den : Int)) ((b.den : Int) * (a.den : Int))) (n := b.num * (a.den : Int) - a.num * (b.den : Int)) (d := (a.den : Int) * (b.den : Int)) (by rw [Int.mul_comm (b.den : Int) (a.den : Int)]) zab (((hb.1.mul ha.2).sub (ha.1.mul hb.2)).mono (by decide)) bab
  have r5 := e_right (K := K) (cs := cs) (q := Rat.divInt (c.num * (c.den : Int) - c.num * (c.den : Int)) ((c.den : Int) * (c.den : Int))) (n := 0) (d := 1) (by rw [Int.sub_self, z0, z0]) (by decide) (zero.mono (by decide)) (one.mono (by decide))
  have r6 := e_right (K := K) (cs := cs) (q := Rat.divInt (a.num * k) (a.den : Int)) (n := a.num * k) (d := (a.den : Int)) rfl (den0 a) ((ha.1.mul hk).mono (by decide)) (ha.2.mono (by decide))
  have r7 := e_right (K := K) (cs := cs) (q := Rat.divInt (b.num * 0) (b.den : Int)) (n := 0) (d := 1) (by rw [Int.mul_zero, z0, z0]) (by decide) (zero.mono (by decide)) (one.mono (by decide))
  have r8 := e_right (K := K) (cs := cs) (q := Rat.divInt (c.num * (-1)) (c.den : Int)) (n := -c.num) (d := (c.den : Int)) (by rw [Int.mul_neg, Int.mul_one]) (den0 c) (hc.1.neg.mono (by decide)) (hc.2.mono (by decide))
  have r9 := e_right (K := K) (cs := cs) (q := Rat.divInt (b.num * 1) (b.den : Int)) (n := b.num) (d := (b.den : Int)) (by rw [Int.mul_one]) (den0 b) (hb.1.mono (by decide)) (hb.2.mono (by decide))
  have r10 := e_right (K := K) (cs := cs) (q := 0 + a + b + c) (n := a.num * (b.den : Int) * (c.den : Int) + b.num * (a.den : Int) * (c.den : Int) + c.num * (a.den : Int) * (b.den : Int)) (d := (a.den : Int) * (b.den : Int) * (c.den : Int)) (one_mul' _ _ _ (dabc) (by simp only [Rat.intCast_mul, Rat.intCast_add, Rat.intCast_sub, Rat.intCast_neg, na, nb, nc]; grind)) (zabc) (((bl.add bm).add br).mono (by decide)) (babc)
  have r11 := e_right (K := K) (cs := cs) (q := 0 + c + b + a + b + c + b + a) (n := 2 * (a.num * (b.den : Int) * (c.den : Int)) + 3 * (b.num * (a.den : Int) * (c.den : Int)) + 2 * (c.num * (a.den : Int) * (b.den : Int))) (d := (a.den : Int) * (b.den : Int) * (c.den : Int)) (one_mul' _ _ _ (dabc) (by simp only [Rat.intCast_mul, Rat.intCast_add, Rat.intCast_sub, Rat.intCast_neg, na, nb, nc]; grind)) (zabc) ((((b2.mul bl).add (b3.mul bm)).add (b2.mul br)).mono (by decide)) (babc)
  have u1 : mulB (a.num) ((b.den : Int)) = true := mulB_of (ha.1) (hb.2) (by decide)
  have u2 : mulB (b.num) ((a.den : Int)) = true := mulB_of (hb.1) (ha.2) (by decide)
  have u3 : mulB (a.num * (b.den : Int)) ((c.den : Int)) = true := mulB_of (ha.1.mul hb.2) (hc.2) (by decide)
  have u4 : mulB (b.num * (a.den : Int)) ((c.den : Int)) = true := mulB_of (hb.1.mul ha.2) (hc.2) (by decide)
  have u5 : mulB (c.num) ((a.den : Int)) = true := mulB_of (hc.1) (ha.2) (by decide)
  have u6 : mulB (c.num * (a.den : Int)) ((b.den : Int)) = true := mulB_of (hc.1.mul ha.2) (hb.2) (by decide)
  have u7 : mulB ((a.den : Int)) ((b.den : Int)) = true := mulB_of (ha.2) (hb.2) (by decide)
  have u8 : mulB (a.num) (k) = true := mulB_of (ha.1) (hk) (by decide)
  have u9 : mulB (2) (a.num * (b.den : Int) * (c.den : Int)) = true := mulB_of (b2) (bl) (by decide)
  have u10 : mulB (3) (b.num * (a.den : Int) * (c.den : Int)) = true := mulB_of (b3) (bm) (by decide)
  have u11 : mulB (2) (c.num * (a.den : Int) * (b.den : Int)) = true := mulB_of (b2) (br) (by decide)
  have u12 : mulB ((a.den : Int) * (b.den : Int)) ((c.den : Int)) = true := mulB_of (ha.2.mul hb.2) (hc.2) (by decide)
  simp only [FD.sSeq_ap, FD.sNext_ap, FD.sBrk_ap, FD.sCont_ap, FD.sIf_ap, FD.sSet_ap, FD.sSetL_ap, FD.sDrop_ap, FD.sRet_ap, FD.sRetN_ap, FD.sFor_ap, FD.sAsg_ap, FD.sRaise_ap, FD.sAppend_ap, FD.sSetIx_ap, FD.eC_ap, FD.eVar_0, FD.eVar_s, FD.e1_ap, FD.e2_ap, FD.t1_ap, FD.t2_ap, FD.eT_ap, FD.tAnd_ap, FD.tOr_ap, FD.tNot_ap, FD.eIf_ap, FD.aNil_ap, FD.aCons_ap, FD.eTup_ap, FD.lLst_ap, FD.eL_ap, FD.eB_ap, FD.eCallR_ap, FD.eAnd_ap, FD.eOr_ap, FD.eNot_ap, FD.eChain_ap, FD.oSeq_ap, FD.oRange_ap, FD.oNone_ap, FD.oInt_ap, FD.lCut_ap, FD.gCutL_lst, FD.gCutL_fls, FD.frzD_int, FD.frzD_bl, FD.frzD_str, FD.frzD_non, FD.frzD_nil, FD.frzD_lst, FD.frzD_fls, FD.outS_nx, FD.outS_rt, FD.outS_exc, FD.runD_eq, FD.Out.bind_ok, FD.Out.bind_exc, FD.Out.bind_bad, FD.stE_ok, FD.stE_exc, FD.stE_bad, FD.andThen_nx, FD.andThen_bk, FD.andThen_ct, FD.andThen_rt, FD.andThen_exc, FD.andThen_bad, FD.ofO_some, FD.ofO_none, FD.Lo.d_sh, FD.Lo.d_ol, FD.Lo.d_od, FD.frz_nil, FD.frz_cons, FD.frz1_0, FD.frz1_n, FD.frz1_s, FD.uName_ap, FD.uTup_ap, FD.uCons_ap, FD.uNil_ap, FD.turn_nx, FD.turn_ct, FD.turn_bk, FD.turn_rt, FD.turn_exc, FD.forD_nil, FD.forD_n, FD.atI_0, FD.atI_1, FD.atI_2, FD.atI_3, FD.unset_rt, FD.unset_nx, FD.unset_bk, FD.unset_ct, Option.bind_some, Option.map_some, FD.gI_int, FD.gI0_int, FD.cI_int, FD.gAdd_int, FD.gNeg_int, FD.eqD_int, FD.eqD_str, FD.eqD_bl, FD.eqD_non, FD.neg2_eq, FD.blD_bl, FD.truD_non, FD.truD_bl, FD.truD_int, FD.truD_tup, FD.truD_lst, FD.truD_fls, FD.truD_dic, FD.Dt.seq_tup, FD.Dt.seq_lst, FD.Dt.seq_fls, FD.gLen_tup, FD.gLen_lst, FD.gLen_fls, FD.gInt_int, FD.gInt_bl, FD.gAbs_int, FD.gGcd_int, FD.gIx_tup, FD.gIx_lst, FD.gIx_fls, FD.isi_int_int, FD.isi_int_bool, FD.isi_bool_int, FD.isi_bool_bool, FD.isi_tup, FD.isi_lst, List.map_cons, List.map_nil, List.length_cons, List.length_nil, List.cons_append, List.nil_append, List.set_cons_zero, List.set_cons_succ, List.getElem?_cons_zero, List.getElem?_cons_succ, Nat.reduceAdd, Nat.reduceSub, Nat.zero_add, Nat.sub_self, List.replicate_zero, List.replicate_succ, Nat.reduceLeDiff, if_true, if_false, Bool.false_eq_true, Bool.not_true, Bool.not_false, decide_eq_true_eq, frz_fr, ix0, ix1, s0, s1, s2, s3, s7, e_difference A B, e_difference B A, e_difference C C, e_times A k4, e_times B (zero.mono (by decide) : Bd 400 0), e_times C m1, e_times B (one.mono (by decide) : Bd 400 1), u1, u2, u3, u4, u5, u6, u7, u8, u9, u10, u11, u12, r0, r1, r2, r3, r4, r5, r6, r7, r8, r9, r10, r11]
end Lk00

namespace Lk00
open PySem L2 FD
variable {K : PySem.W.Frag} {cs : Cs}
/-! ### in order -/
theorem le_stG (a b : Rat) : ¬ stG a b < a ∧ ¬ stG a b < b := by
  unfold stG
  split <;> constructor <;> grind
theorem le_stL (a b : Rat) : ¬ a < stL a b ∧ ¬ b < stL a b := by
  unfold stL
  split <;> constructor <;> grind
theorem stG_back (a b c : Rat) : stG (stG (stG a b) c) a = stG (stG a b) c := by
  have h1 := (le_stG a b).1
  have h2 := (le_stG (stG a b) c).1
  show (if stG (stG a b) c < a then a else stG (stG a b) c) = _
  rw [if_neg]
  generalize stG a b = x at *
  generalize stG x c = y at *
  grind
theorem stL_back (a b c : Rat) : stL (stL (stL a b) c) a = stL (stL a b) c := by
  have h1 := (le_stL a b).1
  have h2 := (le_stL (stL a b) c).1
  show (if a < stL (stL a b) c then a else stL (stL a b) c) = _
  rw [if_neg]
  generalize stL a b = x at *
  generalize stL x c = y at *
  grind
theorem right_eq {p q : Rat} (h : p = q) (hq : Bf 400 q) : m__law_right K cs [fr p, .int q.num, .int (q.den : Int)] = .ok (.bl true) :=
  e_right (by rw [Rat.num_divInt_den, h]) (den0 q) (hq.1.mono (by decide)) (hq.2.mono (by decide))
theorem cut1 (x y z : Dt) : cutD [x, y, z] none (some ((0 : Int) + 1)) = [x] := rfl
theorem cut2 (x y z : Dt) : cutD [x, y, z] none (some ((1 : Int) + 1)) = [x, y] := rfl
theorem cut3 (x y z : Dt) : cutD [x, y, z] none (some ((2 : Int) + 1)) = [x, y, z] := rfl
theorem cut4 (x y z : Dt) : cutD [x, y, z] none (some ((3 : Int) + 1)) = [x, y, z] := rfl
theorem rng4 : rngD 0 4 = [.int 0, .int 1, .int 2, .int 3] := rfl
theorem rng3 : rngD 0 3 = [.int 0, .int 1, .int 2] := rfl
theorem neD_int (i j : Int) : neD (.int i) (.int j) = some (!(i == j)) := rfl
/-- one turn over the orders -/
noncomputable def bRow (K : PySem.W.Frag) (cs : Cs) : FD.Env → SOut :=
    (sSeq (sSet 3 (e2 (eVar 6) (eC (.int 0)) gIx) [])
    (sSeq (sSet 4 (e2 (eVar 6) (eC (.int 1)) gIx) [])
    (sSeq (sSet 7 (e2 (eVar 6) (eC (.int 2)) gIx) [])
    (sSeq (sSetL 8 (lLst (aCons (eCallR (m_greatest_of K cs) (aCons (eVar 3) aNil)) (aCons (eCallR (m_greatest_of K cs) (aCons (eVar 3) (aCons (eVar 4) aNil))) (aCons (eCallR (m_greatest_of K cs) (aCons (eVar 3) (aCons (eVar 4) (aCons (eVar 7) aNil)))) aNil)))) [3, 3, 4, 3, 4, 7])
    (sSeq (sAppend 8 (eCallR (m_greatest_of K cs) (aCons (eVar 3) (aCons (eVar 4) (aCons (eVar 7) (aCons (eVar 3) aNil))))) [3, 4, 7, 3])
    (sSeq (sSetL 9 (lLst (aCons (eCallR (m_least_of K cs) (aCons (eVar 3) aNil)) (aCons (eCallR (m_least_of K cs) (aCons (eVar 3) (aCons (eVar 4) aNil))) (aCons (eCallR (m_least_of K cs) (aCons (eVar 3) (aCons (eVar 4) (aCons (eVar 7) aNil)))) aNil)))) [3, 3, 4, 3, 4, 7])
    (sSeq (sAppend 9 (eCallR (m_least_of K cs) (aCons (eVar 3) (aCons (eVar 4) (aCons (eVar 7) (aCons (eVar 3) aNil))))) [3, 4, 7, 3])
    (sFor (uName 10) (oRange (aCons (eC (.int 4)) aNil)) []
    (sSeq (sSet 11 (eCallR (m__law_extreme K cs) (aCons (eL (lCut (eVar 6) oNone (oInt (e2 (eVar 10) (eC (.int 1)) gAdd)))) (aCons (eC (.int 1)) aNil))) [6])
    (sSeq (sIf (tNotD (t1 (eCallR (m__law_right K cs) (aCons (e2 (eVar 8) (eVar 10) gIx) (aCons (e2 (eVar 11) (eC (.int 0)) gIx) (aCons (e2 (eVar 11) (eC (.int 1)) gIx) aNil)))) truD)) (sRet (eC (.bl false))) sNext)
    (sSeq (sSet 11 (eCallR (m__law_extreme K cs) (aCons (eL (lCut (eVar 6) oNone (oInt (e2 (eVar 10) (eC (.int 1)) gAdd)))) (aCons (e1 (eC (.int 1)) gNeg) aNil))) [6])
    (sIf (tNotD (t1 (eCallR (m__law_right K cs) (aCons (e2 (eVar 9) (eVar 10) gIx) (aCons (e2 (eVar 11) (eC (.int 0)) gIx) (aCons (e2 (eVar 11) (eC (.int 1)) gIx) aNil)))) truD)) (sRet (eC (.bl false))) sNext))))))))))))
theorem row_ok {a b c o p q : Rat} (ho : Bf 400 o) (hp : Bf 400 p) (hq : Bf 400 q) (x3 x4 x5 x7 x8 x9 x10 x11 : Option Lo) : ∃ y3 y4 y5 y6 y7 y8 y9 y10 y11,
    bRow K cs [some (.sh (fr a)), some (.sh (fr b)), some (.sh (fr c)), x3, x4, x5, some (.sh (.lst [fr o, fr p, fr q])), x7, x8, x9, x10, x11] =
      .ok .nx [some (.sh (fr a)), some (.sh (fr b)), some (.sh (fr c)), y3, y4, y5, y6, y7, y8, y9, y10, y11] := by
  have hop : ∀ r ∈ [p], Bf 400 r := by simp [hp]
  have hopq : ∀ r ∈ [p, q], Bf 400 r := by simp [hp, hq]
  have hopqo : ∀ r ∈ [p, q, o], Bf 400 r := by simp [hp, hq, ho]
  have h0 : ∀ r ∈ ([] : List Rat), Bf 400 r := by simp
  have g1 := e_greatest (K := K) (cs := cs) ho h0 (by simp)
  have g2 := e_greatest (K := K) (cs := cs) ho hop (by simp)
  have g3 := e_greatest (K := K) (cs := cs) ho hopq (by simp)
  have g4 := e_greatest (K := K) (cs := cs) ho hopqo (by simp)
  have l1 := e_least (K := K) (cs := cs) ho h0 (by simp)
  have l2 := e_least (K := K) (cs := cs) ho hop (by simp)
  have l3 := e_least (K := K) (cs := cs) ho hopq (by simp)
  have l4 := e_least (K := K) (cs := cs) ho hopqo (by simp)
  have x1 := e_exG (K := K) (cs := cs) ho h0
  have x2 := e_exG (K := K) (cs := cs) ho hop
  have x3' := e_exG (K := K) (cs := cs) ho hopq
  have z1 := e_exL (K := K) (cs := cs) ho h0
  have z2 := e_exL (K := K) (cs := cs) ho hop
  have z3 := e_exL (K := K) (cs := cs) ho hopq
  simp only [List.map_cons, List.map_nil, List.foldl_cons, List.foldl_nil] at g1 g2 g3 g4 l1 l2 l3 l4 x1 x2 x3' z1 z2 z3
  rw [stG_back] at g4
  rw [stL_back] at l4
  have bG2 := Bf_stG ho hp
  have bG3 := Bf_stG bG2 hq
  have bL2 := Bf_stL ho hp
  have bL3 := Bf_stL bL2 hq
  have r1 := right_eq (K := K) (cs := cs) rfl ho
  have r2 := right_eq (K := K) (cs := cs) rfl bG2
  have r3 := right_eq (K := K) (cs := cs) rfl bG3
  have r4 := right_eq (K := K) (cs := cs) rfl bL2
  have r5 := right_eq (K := K) (cs := cs) rfl bL3
  have sB : smallB 4 = true := by decide
  have hn : Int.toNat 4 = 4 := rfl
  refine ⟨?a3, ?a4, ?a5, ?a6, ?a7, ?a8, ?a9, ?a10, ?a11, ?h⟩
  case h =>
    unfold bRow
    simp only [FD.sSeq_ap, FD.sNext_ap, FD.sBrk_ap, FD.sCont_ap, FD.sIf_ap, FD.sSet_ap, FD.sSetL_ap, FD.sDrop_ap, FD.sRet_ap, FD.sRetN_ap, FD.sFor_ap, FD.sAsg_ap, FD.sRaise_ap, FD.sAppend_ap, FD.sSetIx_ap, FD.eC_ap, FD.eVar_0, FD.eVar_s, FD.e1_ap, FD.e2_ap, FD.t1_ap, FD.t2_ap, FD.eT_ap, FD.tAnd_ap, FD.tOr_ap, FD.tNot_ap, FD.eIf_ap, FD.aNil_ap, FD.aCons_ap, FD.eTup_ap, FD.lLst_ap, FD.eL_ap, FD.eB_ap, FD.eCallR_ap, FD.eAnd_ap, FD.eOr_ap, FD.eNot_ap, FD.eChain_ap, FD.oSeq_ap, FD.oRange_ap, FD.oNone_ap, FD.oInt_ap, FD.lCut_ap, FD.gCutL_lst, FD.gCutL_fls, FD.frzD_int, FD.frzD_bl, FD.frzD_str, FD.frzD_non, FD.frzD_nil, FD.frzD_lst, FD.frzD_fls, FD.outS_nx, FD.outS_rt, FD.outS_exc, FD.runD_eq, FD.Out.bind_ok, FD.Out.bind_exc, FD.Out.bind_bad, FD.stE_ok, FD.stE_exc, FD.stE_bad, FD.andThen_nx, FD.andThen_bk, FD.andThen_ct, FD.andThen_rt, FD.andThen_exc, FD.andThen_bad, FD.ofO_some, FD.ofO_none, FD.Lo.d_sh, FD.Lo.d_ol, FD.Lo.d_od, FD.frz_nil, FD.frz_cons, FD.frz1_0, FD.frz1_n, FD.frz1_s, FD.uName_ap, FD.uTup_ap, FD.uCons_ap, FD.uNil_ap, FD.turn_nx, FD.turn_ct, FD.turn_bk, FD.turn_rt, FD.turn_exc, FD.forD_nil, FD.forD_n, FD.atI_0, FD.atI_1, FD.atI_2, FD.atI_3, FD.unset_rt, FD.unset_nx, FD.unset_bk, FD.unset_ct, Option.bind_some, Option.map_some, FD.gI_int, FD.gI0_int, FD.cI_int, FD.gAdd_int, FD.gNeg_int, FD.eqD_int, FD.eqD_str, FD.eqD_bl, FD.eqD_non, FD.neg2_eq, FD.blD_bl, FD.truD_non, FD.truD_bl, FD.truD_int, FD.truD_tup, FD.truD_lst, FD.truD_fls, FD.truD_dic, FD.Dt.seq_tup, FD.Dt.seq_lst, FD.Dt.seq_fls, FD.gLen_tup, FD.gLen_lst, FD.gLen_fls, FD.gInt_int, FD.gInt_bl, FD.gAbs_int, FD.gGcd_int, FD.gIx_tup, FD.gIx_lst, FD.gIx_fls, FD.isi_int_int, FD.isi_int_bool, FD.isi_bool_int, FD.isi_bool_bool, FD.isi_tup, FD.isi_lst, List.map_cons, List.map_nil, List.length_cons, List.length_nil, List.cons_append, List.nil_append, List.set_cons_zero, List.set_cons_succ, List.getElem?_cons_zero, List.getElem?_cons_succ, Nat.reduceAdd, Nat.reduceSub, Nat.zero_add, Nat.sub_self, List.replicate_zero, List.replicate_succ, Nat.reduceLeDiff, if_true, if_false, Bool.false_eq_true, Bool.not_true, Bool.not_false, decide_eq_true_eq, frz_fr, g1, g2, g3, g4, l1, l2, l3, l4, oRng_1, sB, hn, rng4, cut1, cut2, cut3, cut4, x1, x2, x3', z1, z2, z3, ix0, ix1, r1, r2, r3, r4, r5, Nat.reduceLT]
    rfl
end Lk00

namespace Lk00
open PySem L2 FD
variable {K : PySem.W.Frag} {cs : Cs}
theorem lLc_ap {u : Dt → FD.Env → Option FD.Env} {vs : List Nat} {t : FD.Env → Out Bool} {f : FD.Env → Out Dt} {src : FD.Env → Out (List Dt)} {lk : List Nat} {ρ : FD.Env} : lLc u vs t f src lk ρ = (src ρ).bind fun ds => if ds.length ≤ 16777216 then lcD u t f (wipeE (frz lk ρ) vs) ds else .bad := rfl
theorem lcD_nil {u : Dt → FD.Env → Option FD.Env} {t : FD.Env → Out Bool} {f : FD.Env → Out Dt} {ρ : FD.Env} : lcD u t f ρ [] = .ok [] := rfl
theorem lcD_cons {u : Dt → FD.Env → Option FD.Env} {t : FD.Env → Out Bool} {f : FD.Env → Out Dt} {ρ : FD.Env} {d : Dt} {ds : List Dt} : lcD u t f ρ (d :: ds) = (ofO (u d ρ)).bind fun ρ1 => (noEx (t ρ1)).bind fun b => if b = true then (noEx (f ρ1)).bind fun y => (lcD u t f ρ ds).bind fun r => .ok (y :: r) else lcD u t f ρ ds := rfl
theorem wipe1 {ρ : FD.Env} {v : Nat} {vs : List Nat} : wipeE ρ (v :: vs) = (wipeE ρ vs).set v none := rfl
theorem wipe0 {ρ : FD.Env} : wipeE ρ [] = ρ := rfl
theorem tYes_ap {ρ : FD.Env} : tYesD ρ = .ok true := rfl
theorem ordered_eq : b__law_ordered K cs = sSeq (sFor (uName 3) (oSeq (eL (lLst (aCons (eVar 0) (aCons (eVar 1) (aCons (eVar 2) aNil)))))) [0, 1, 2]
    (sFor (uName 4) (oSeq (eL (lLst (aCons (eVar 0) (aCons (eVar 1) (aCons (eVar 2) aNil)))))) [0, 1, 2]
    (sSeq (sSet 5 (eCallR (m_compared K cs) (aCons (eVar 3) (aCons (eVar 4) aNil))) [3, 4])
    (sIf (tOrD (tNotD (t1 (eCallR (m__law_is_integer K cs) (aCons (eVar 5) aNil)) truD)) (t2 (eVar 5) (eCallR (m__law_sign K cs) (aCons (eVar 3) (aCons (eVar 4) aNil))) neD)) (sRet (eC (.bl false))) sNext))))
    (sSeq (sFor (uName 6) (oSeq (eL (lLst (aCons (eL (lLst (aCons (eVar 0) (aCons (eVar 1) (aCons (eVar 2) aNil))))) (aCons (eL (lLst (aCons (eVar 1) (aCons (eVar 2) (aCons (eVar 0) aNil))))) (aCons (eL (lLst (aCons (eVar 2) (aCons (eVar 0) (aCons (eVar 1) aNil))))) (aCons (eL (lLst (aCons (eVar 2) (aCons (eVar 1) (aCons (eVar 0) aNil))))) (aCons (eL (lLst (aCons (eVar 1) (aCons (eVar 0) (aCons (eVar 2) aNil))))) (aCons (eL (lLst (aCons (eVar 0) (aCons (eVar 2) (aCons (eVar 1) aNil))))) aNil))))))))) [0, 1, 2, 1, 2, 0, 2, 0, 1, 2, 1, 0, 1, 0, 2, 0, 2, 1] (bRow K cs))
    (sRet (eC (.bl true)))) := rfl
theorem e_ordered {a b c : Rat} (ha : Bf 400 a) (hb : Bf 400 b) (hc : Bf 400 c) : m__law_ordered K cs [fr a, fr b, fr c] = .ok (.bl true) := by
  unfold m__law_ordered argN
  rw [ordered_eq]
  -- the rows
  have rows : ∀ x3 x4 x5 x6 x7 x8 x9 x10 x11 : Option Lo, ∃ ρ', forD (uName 6) (bRow K cs) [.lst [fr a, fr b, fr c], .lst [fr b, fr c, fr a], .lst [fr c, fr a, fr b], .lst [fr c, fr b, fr a], .lst [fr b, fr a, fr c], .lst [fr a, fr c, fr b]]
      [some (.sh (fr a)), some (.sh (fr b)), some (.sh (fr c)), x3, x4, x5, x6, x7, x8, x9, x10, x11] = .ok .nx ρ' := by
    intro x3 x4 x5 x6 x7 x8 x9 x10 x11
    let I : FD.Env → Prop := fun ρ => ∃ y3 y4 y5 y6 y7 y8 y9 y10 y11, ρ = [some (Lo.sh (fr a)), some (.sh (fr b)), some (.sh (fr c)), y3, y4, y5, y6, y7, y8, y9, y10, y11]
    have key : ∀ d ∈ [Dt.lst [fr a, fr b, fr c], .lst [fr b, fr c, fr a], .lst [fr c, fr a, fr b], .lst [fr c, fr b, fr a], .lst [fr b, fr a, fr c], .lst [fr a, fr c, fr b]], ∀ ρ, I ρ → ∃ ρ1 ρ', uName 6 d ρ = some ρ1 ∧ bRow K cs ρ1 = .ok .nx ρ' ∧ I ρ' := by
      intro d hd ρ hρ
      obtain ⟨y3, y4, y5, y6, y7, y8, y9, y10, y11, rfl⟩ := hρ
      have go : ∀ {o p q : Rat}, Bf 400 o → Bf 400 p → Bf 400 q → d = .lst [fr o, fr p, fr q] → ∃ ρ1 ρ', uName 6 d [some (Lo.sh (fr a)), some (.sh (fr b)), some (.sh (fr c)), y3, y4, y5, y6, y7, y8, y9, y10, y11] = some ρ1 ∧ bRow K cs ρ1 = .ok .nx ρ' ∧ I ρ' := by
        intro o p q ho hp hq ed
        subst ed
        obtain ⟨z3, z4, z5, z6, z7, z8, z9, z10, z11, ez⟩ := row_ok (K := K) (cs := cs) (a := a) (b := b) (c := c) ho hp hq y3 y4 y5 y7 y8 y9 y10 y11
        exact ⟨_, _, rfl, ez, _, _, _, _, _, _, _, _, _, rfl⟩
      simp only [List.mem_cons, List.not_mem_nil, or_false] at hd
      rcases hd with h | h | h | h | h | h
      · exact go ha hb hc h
      · exact go hb hc ha h
      · exact go hc ha hb h
      · exact go hc hb ha h
      · exact go hb ha hc h
      · exact go ha hc hb h
    obtain ⟨ρ', e, _⟩ := forD_inv I key (ρ := [some (.sh (fr a)), some (.sh (fr b)), some (.sh (fr c)), x3, x4, x5, x6, x7, x8, x9, x10, x11]) ⟨_, _, _, _, _, _, _, _, _, rfl⟩
    exact ⟨ρ', e⟩
  obtain ⟨ρ', er⟩ := rows (some (.sh (fr c))) (some (.sh (fr c))) (some (.sh (.int (sg c c)))) none none none none none none
  simp only [FD.sSeq_ap, FD.sNext_ap, FD.sBrk_ap, FD.sCont_ap, FD.sIf_ap, FD.sSet_ap, FD.sSetL_ap, FD.sDrop_ap, FD.sRet_ap, FD.sRetN_ap, FD.sFor_ap, FD.sAsg_ap, FD.sRaise_ap, FD.sAppend_ap, FD.sSetIx_ap, FD.eC_ap, FD.eVar_0, FD.eVar_s, FD.e1_ap, FD.e2_ap, FD.t1_ap, FD.t2_ap, FD.eT_ap, FD.tAnd_ap, FD.tOr_ap, FD.tNot_ap, FD.eIf_ap, FD.aNil_ap, FD.aCons_ap, FD.eTup_ap, FD.lLst_ap, FD.eL_ap, FD.eB_ap, FD.eCallR_ap, FD.eAnd_ap, FD.eOr_ap, FD.eNot_ap, FD.eChain_ap, FD.oSeq_ap, FD.oRange_ap, FD.oNone_ap, FD.oInt_ap, FD.lCut_ap, FD.gCutL_lst, FD.gCutL_fls, FD.frzD_int, FD.frzD_bl, FD.frzD_str, FD.frzD_non, FD.frzD_nil, FD.frzD_lst, FD.frzD_fls, FD.outS_nx, FD.outS_rt, FD.outS_exc, FD.runD_eq, FD.Out.bind_ok, FD.Out.bind_exc, FD.Out.bind_bad, FD.stE_ok, FD.stE_exc, FD.stE_bad, FD.andThen_nx, FD.andThen_bk, FD.andThen_ct, FD.andThen_rt, FD.andThen_exc, FD.andThen_bad, FD.ofO_some, FD.ofO_none, FD.Lo.d_sh, FD.Lo.d_ol, FD.Lo.d_od, FD.frz_nil, FD.frz_cons, FD.frz1_0, FD.frz1_n, FD.frz1_s, FD.uName_ap, FD.uTup_ap, FD.uCons_ap, FD.uNil_ap, FD.turn_nx, FD.turn_ct, FD.turn_bk, FD.turn_rt, FD.turn_exc, FD.forD_nil, FD.forD_n, FD.atI_0, FD.atI_1, FD.atI_2, FD.atI_3, FD.unset_rt, FD.unset_nx, FD.unset_bk, FD.unset_ct, Option.bind_some, Option.map_some, FD.gI_int, FD.gI0_int, FD.cI_int, FD.gAdd_int, FD.gNeg_int, FD.eqD_int, FD.eqD_str, FD.eqD_bl, FD.eqD_non, FD.neg2_eq, FD.blD_bl, FD.truD_non, FD.truD_bl, FD.truD_int, FD.truD_tup, FD.truD_lst, FD.truD_fls, FD.truD_dic, FD.Dt.seq_tup, FD.Dt.seq_lst, FD.Dt.seq_fls, FD.gLen_tup, FD.gLen_lst, FD.gLen_fls, FD.gInt_int, FD.gInt_bl, FD.gAbs_int, FD.gGcd_int, FD.gIx_tup, FD.gIx_lst, FD.gIx_fls, FD.isi_int_int, FD.isi_int_bool, FD.isi_bool_int, FD.isi_bool_bool, FD.isi_tup, FD.isi_lst, List.map_cons, List.map_nil, List.length_cons, List.length_nil, List.cons_append, List.nil_append, List.set_cons_zero, List.set_cons_succ, List.getElem?_cons_zero, List.getElem?_cons_succ, Nat.reduceAdd, Nat.reduceSub, Nat.zero_add, Nat.sub_self, List.replicate_zero, List.replicate_succ, Nat.reduceLeDiff, if_true, if_false, Bool.false_eq_true, Bool.not_true, Bool.not_false, decide_eq_true_eq, e_compared, e_sign, ha, hb, hc, e_is_integer, neD_int, beq_self_eq_true, frz_fr]
  rw [forD_n] at er
  simp only [List.set_cons_succ, List.set_cons_zero] at er
  rw [er]
  rfl
end Lk00

namespace Lk00
open PySem L2 FD
variable {K : PySem.W.Frag} {cs : Cs}
theorem ix31 : ixN 3 1 = some 1 := rfl
theorem pow10 : powB 10 20 = true := by decide
theorem p20 : (10 : Int) ^ (Int.toNat 20) = 100000000000000000000 := rfl
def row2 (n d : Int) : Dt := .lst [.int n, .int d]
theorem r20 (n d : Int) : gIx (row2 n d) (.int 0) = some (.int n) := rfl
theorem r21 (n d : Int) : gIx (row2 n d) (.int 1) = some (.int d) := rfl
theorem row2_eq (n d : Int) : Dt.lst [.int n, .int d] = row2 n d := rfl
theorem limit (z : Int) : ∃ l : Int, atI [Dt.int 100000000000000000000, .int 12, .int 3, .int 1000] (z.fmod 4) = some (.int l) ∧ 3 ≤ l ∧ l ≤ 100000000000000000000 := by
  have h0 := Int.fmod_nonneg_of_pos z (show (0 : Int) < 4 by decide)
  have h1 := Int.fmod_lt_of_pos z (show (0 : Int) < 4 by decide)
  have h : z.fmod 4 = 0 ∨ z.fmod 4 = 1 ∨ z.fmod 4 = 2 ∨ z.fmod 4 = 3 := by omega
  rcases h with h | h | h | h <;> rw [h]
  · exact ⟨_, rfl, by decide, by decide⟩
  · exact ⟨_, rfl, by decide, by decide⟩
  · exact ⟨_, rfl, by decide, by decide⟩
  · exact ⟨_, rfl, by decide, by decide⟩
theorem e_fractions (ns : List Int) : ∃ n0 d0 n1 d1 n2 d2 : Int, m__law_fractions K cs [.fls (ns.map .int)] = .ok (.lst [row2 n0 d0, row2 n1 d1, row2 n2 d2]) ∧ (d0 ≠ 0 ∧ d1 ≠ 0 ∧ d2 ≠ 0) ∧
    (Bd 138 n0 ∧ Bd 138 d0) ∧ (Bd 138 n1 ∧ Bd 138 d1) ∧ (Bd 138 n2 ∧ Bd 138 d2) := by
  obtain ⟨c0, k0⟩ := e_cell (K := K) (cs := cs) ns (k := 0) (by decide) (by decide)
  obtain ⟨c1, k1⟩ := e_cell (K := K) (cs := cs) ns (k := 1) (by decide) (by decide)
  obtain ⟨c2, k2⟩ := e_cell (K := K) (cs := cs) ns (k := 2) (by decide) (by decide)
  obtain ⟨c3, k3⟩ := e_cell (K := K) (cs := cs) ns (k := 3) (by decide) (by decide)
  obtain ⟨c4, k4⟩ := e_cell (K := K) (cs := cs) ns (k := 4) (by decide) (by decide)
  obtain ⟨c5, k5⟩ := e_cell (K := K) (cs := cs) ns (k := 5) (by decide) (by decide)
  obtain ⟨c7, k7⟩ := e_cell (K := K) (cs := cs) ns (k := 7) (by decide) (by decide)
  obtain ⟨c8, k8⟩ := e_cell (K := K) (cs := cs) ns (k := 8) (by decide) (by decide)
  obtain ⟨c9, k9⟩ := e_cell (K := K) (cs := cs) ns (k := 9) (by decide) (by decide)
  obtain ⟨l, hl, l3, l20⟩ := limit c9
  obtain ⟨n0, s0, b0⟩ := e_signed (K := K) (cs := cs) (c := c0) (l := l) (by omega)
  obtain ⟨n1, s1, b1⟩ := e_signed (K := K) (cs := cs) (c := c2) (l := l) (by omega)
  obtain ⟨n2, s2, b2⟩ := e_signed (K := K) (cs := cs) (c := c4) (l := l) (by omega)
  obtain ⟨d0, t0, e0, z0⟩ := e_nonzero (K := K) (cs := cs) (c := c1) (l := l) (by omega)
  obtain ⟨d1, t1', e1, z1⟩ := e_nonzero (K := K) (cs := cs) (c := c3) (l := l) (by omega)
  obtain ⟨d2, t2', e2', z2⟩ := e_nonzero (K := K) (cs := cs) (c := c5) (l := l) (by omega)
  obtain ⟨f, tf, ef, zf⟩ := e_nonzero (K := K) (cs := cs) (c := c8) (l := l) (by omega)
  have B : ∀ i : Int, i.natAbs < l.natAbs → Bd 68 i := fun i hi => by unfold Bd; omega
  have B' : ∀ i : Int, i.natAbs < l.natAbs → Bd 138 i := fun i hi => (B i hi).mono (by decide)
  have one : Bd 1 1 := by unfold Bd; decide
  have m0 : mulB 2 0 = true := by decide
  have m1 : mulB 2 1 = true := by decide
  have m2 : mulB 2 2 = true := by decide
  have m3 : mulB n0 f = true := mulB_of (B _ b0) (B _ ef) (by decide)
  have m4 : mulB d0 f = true := mulB_of (B _ e0) (B _ ef) (by decide)
  have a0 : (2 : Int) * 0 = 0 := rfl
  have a1 : (2 : Int) * 1 = 2 := rfl
  have a2 : (2 : Int) * 2 = 4 := rfl
  have a3 : (0 : Int) + 1 = 1 := rfl
  have a4 : (2 : Int) + 1 = 3 := rfl
  have a5 : (4 : Int) + 1 = 5 := rfl
  have sB : smallB 3 = true := by decide
  have hn : Int.toNat 3 = 3 := rfl
  have z4 : (4 : Int) ≠ 0 := by decide
  have z5 : (5 : Int) ≠ 0 := by decide
  have w0 := Int.fmod_nonneg_of_pos c7 (show (0 : Int) < 5 by decide)
  have w1 := Int.fmod_lt_of_pos c7 (show (0 : Int) < 5 by decide)
  have hw : c7.fmod 5 = 0 ∨ c7.fmod 5 = 1 ∨ c7.fmod 5 = 2 ∨ c7.fmod 5 = 3 ∨ c7.fmod 5 = 4 := by omega
  have q01 : ((0 : Int) == 1) = false := rfl
  have q02 : ((0 : Int) == 2) = false := rfl
  have q03 : ((0 : Int) == 3) = false := rfl
  have q04 : ((0 : Int) == 4) = false := rfl
  have q12 : ((1 : Int) == 2) = false := rfl
  have q13 : ((1 : Int) == 3) = false := rfl
  have q14 : ((1 : Int) == 4) = false := rfl
  have q21 : ((2 : Int) == 1) = false := rfl
  have q23 : ((2 : Int) == 3) = false := rfl
  have q24 : ((2 : Int) == 4) = false := rfl
  have q31 : ((3 : Int) == 1) = false := rfl
  have q32 : ((3 : Int) == 2) = false := rfl
  have q34 : ((3 : Int) == 4) = false := rfl
  have q41 : ((4 : Int) == 1) = false := rfl
  have q42 : ((4 : Int) == 2) = false := rfl
  have q43 : ((4 : Int) == 3) = false := rfl
  unfold m__law_fractions argN b__law_fractions
  rcases hw with h | h | h | h | h
  · refine ⟨n0, d0, n1, d1, n2, d2, ?_, ⟨z0, z1, z2⟩, ⟨B' _ b0, B' _ e0⟩, ⟨B' _ b1, B' _ e1⟩, B' _ b2, B' _ e2'⟩
    simp only [FD.sSeq_ap, FD.sNext_ap, FD.sBrk_ap, FD.sCont_ap, FD.sIf_ap, FD.sSet_ap, FD.sSetL_ap, FD.sDrop_ap, FD.sRet_ap, FD.sRetN_ap, FD.sFor_ap, FD.sAsg_ap, FD.sRaise_ap, FD.sAppend_ap, FD.sSetIx_ap, FD.eC_ap, FD.eVar_0, FD.eVar_s, FD.e1_ap, FD.e2_ap, FD.t1_ap, FD.t2_ap, FD.eT_ap, FD.tAnd_ap, FD.tOr_ap, FD.tNot_ap, FD.eIf_ap, FD.aNil_ap, FD.aCons_ap, FD.eTup_ap, FD.lLst_ap, FD.eL_ap, FD.eB_ap, FD.eCallR_ap, FD.eAnd_ap, FD.eOr_ap, FD.eNot_ap, FD.eChain_ap, FD.oSeq_ap, FD.oRange_ap, FD.oNone_ap, FD.oInt_ap, FD.lCut_ap, FD.gCutL_lst, FD.gCutL_fls, FD.frzD_int, FD.frzD_bl, FD.frzD_str, FD.frzD_non, FD.frzD_nil, FD.frzD_lst, FD.frzD_fls, FD.outS_nx, FD.outS_rt, FD.outS_exc, FD.runD_eq, FD.Out.bind_ok, FD.Out.bind_exc, FD.Out.bind_bad, FD.stE_ok, FD.stE_exc, FD.stE_bad, FD.andThen_nx, FD.andThen_bk, FD.andThen_ct, FD.andThen_rt, FD.andThen_exc, FD.andThen_bad, FD.ofO_some, FD.ofO_none, FD.Lo.d_sh, FD.Lo.d_ol, FD.Lo.d_od, FD.frz_nil, FD.frz_cons, FD.frz1_0, FD.frz1_n, FD.frz1_s, FD.uName_ap, FD.uTup_ap, FD.uCons_ap, FD.uNil_ap, FD.turn_nx, FD.turn_ct, FD.turn_bk, FD.turn_rt, FD.turn_exc, FD.forD_nil, FD.forD_n, FD.atI_0, FD.atI_1, FD.atI_2, FD.atI_3, FD.unset_rt, FD.unset_nx, FD.unset_bk, FD.unset_ct, Option.bind_some, Option.map_some, FD.gI_int, FD.gI0_int, FD.cI_int, FD.gAdd_int, FD.gNeg_int, FD.eqD_int, FD.eqD_str, FD.eqD_bl, FD.eqD_non, FD.neg2_eq, FD.blD_bl, FD.truD_non, FD.truD_bl, FD.truD_int, FD.truD_tup, FD.truD_lst, FD.truD_fls, FD.truD_dic, FD.Dt.seq_tup, FD.Dt.seq_lst, FD.Dt.seq_fls, FD.gLen_tup, FD.gLen_lst, FD.gLen_fls, FD.gInt_int, FD.gInt_bl, FD.gAbs_int, FD.gGcd_int, FD.gIx_tup, FD.gIx_lst, FD.gIx_fls, FD.isi_int_int, FD.isi_int_bool, FD.isi_bool_int, FD.isi_bool_bool, FD.isi_tup, FD.isi_lst, List.map_cons, List.map_nil, List.length_cons, List.length_nil, List.cons_append, List.nil_append, List.set_cons_zero, List.set_cons_succ, List.getElem?_cons_zero, List.getElem?_cons_succ, Nat.reduceAdd, Nat.reduceSub, Nat.zero_add, Nat.sub_self, List.replicate_zero, List.replicate_succ, Nat.reduceLeDiff, if_true, if_false, Bool.false_eq_true, Bool.not_true, Bool.not_false, decide_eq_true_eq, pow10, p20, k0, k1, k2, k3, k4, k5, k7, k8, k9, nzB_of z4, nzB_of z5, hl, oRng_1, sB, hn, rng3, s0, s1, s2, t0, t1', t2', tf, m0, m1, m2, m3, m4, a0, a1, a2, a3, a4, a5, Nat.reduceLT, h, ix31, beq_self_eq_true, row2, q01, q02, q03, q04, q12, q13, q14, q21, q23, q24, q31, q32, q34, q41, q42, q43]
  · refine ⟨n0, d0, (n0 * f), (d0 * f), n2, d2, ?_, ⟨z0, Int.mul_ne_zero z0 zf, z2⟩, ⟨B' _ b0, B' _ e0⟩, ⟨((B _ b0).mul (B _ ef)).mono (by decide), ((B _ e0).mul (B _ ef)).mono (by decide)⟩, B' _ b2, B' _ e2'⟩
    simp only [FD.sSeq_ap, FD.sNext_ap, FD.sBrk_ap, FD.sCont_ap, FD.sIf_ap, FD.sSet_ap, FD.sSetL_ap, FD.sDrop_ap, FD.sRet_ap, FD.sRetN_ap, FD.sFor_ap, FD.sAsg_ap, FD.sRaise_ap, FD.sAppend_ap, FD.sSetIx_ap, FD.eC_ap, FD.eVar_0, FD.eVar_s, FD.e1_ap, FD.e2_ap, FD.t1_ap, FD.t2_ap, FD.eT_ap, FD.tAnd_ap, FD.tOr_ap, FD.tNot_ap, FD.eIf_ap, FD.aNil_ap, FD.aCons_ap, FD.eTup_ap, FD.lLst_ap, FD.eL_ap, FD.eB_ap, FD.eCallR_ap, FD.eAnd_ap, FD.eOr_ap, FD.eNot_ap, FD.eChain_ap, FD.oSeq_ap, FD.oRange_ap, FD.oNone_ap, FD.oInt_ap, FD.lCut_ap, FD.gCutL_lst, FD.gCutL_fls, FD.frzD_int, FD.frzD_bl, FD.frzD_str, FD.frzD_non, FD.frzD_nil, FD.frzD_lst, FD.frzD_fls, FD.outS_nx, FD.outS_rt, FD.outS_exc, FD.runD_eq, FD.Out.bind_ok, FD.Out.bind_exc, FD.Out.bind_bad, FD.stE_ok, FD.stE_exc, FD.stE_bad, FD.andThen_nx, FD.andThen_bk, FD.andThen_ct, FD.andThen_rt, FD.andThen_exc, FD.andThen_bad, FD.ofO_some, FD.ofO_none, FD.Lo.d_sh, FD.Lo.d_ol, FD.Lo.d_od, FD.frz_nil, FD.frz_cons, FD.frz1_0, FD.frz1_n, FD.frz1_s, FD.uName_ap, FD.uTup_ap, FD.uCons_ap, FD.uNil_ap, FD.turn_nx, FD.turn_ct, FD.turn_bk, FD.turn_rt, FD.turn_exc, FD.forD_nil, FD.forD_n, FD.atI_0, FD.atI_1, FD.atI_2, FD.atI_3, FD.unset_rt, FD.unset_nx, FD.unset_bk, FD.unset_ct, Option.bind_some, Option.map_some, FD.gI_int, FD.gI0_int, FD.cI_int, FD.gAdd_int, FD.gNeg_int, FD.eqD_int, FD.eqD_str, FD.eqD_bl, FD.eqD_non, FD.neg2_eq, FD.blD_bl, FD.truD_non, FD.truD_bl, FD.truD_int, FD.truD_tup, FD.truD_lst, FD.truD_fls, FD.truD_dic, FD.Dt.seq_tup, FD.Dt.seq_lst, FD.Dt.seq_fls, FD.gLen_tup, FD.gLen_lst, FD.gLen_fls, FD.gInt_int, FD.gInt_bl, FD.gAbs_int, FD.gGcd_int, FD.gIx_tup, FD.gIx_lst, FD.gIx_fls, FD.isi_int_int, FD.isi_int_bool, FD.isi_bool_int, FD.isi_bool_bool, FD.isi_tup, FD.isi_lst, List.map_cons, List.map_nil, List.length_cons, List.length_nil, List.cons_append, List.nil_append, List.set_cons_zero, List.set_cons_succ, List.getElem?_cons_zero, List.getElem?_cons_succ, Nat.reduceAdd, Nat.reduceSub, Nat.zero_add, Nat.sub_self, List.replicate_zero, List.replicate_succ, Nat.reduceLeDiff, if_true, if_false, Bool.false_eq_true, Bool.not_true, Bool.not_false, decide_eq_true_eq, pow10, p20, k0, k1, k2, k3, k4, k5, k7, k8, k9, nzB_of z4, nzB_of z5, hl, oRng_1, sB, hn, rng3, s0, s1, s2, t0, t1', t2', tf, m0, m1, m2, m3, m4, a0, a1, a2, a3, a4, a5, Nat.reduceLT, h, ix31, beq_self_eq_true, row2, q01, q02, q03, q04, q12, q13, q14, q21, q23, q24, q31, q32, q34, q41, q42, q43]
  · refine ⟨n0, d0, (n0 * f + 1), (d0 * f), n2, d2, ?_, ⟨z0, Int.mul_ne_zero z0 zf, z2⟩, ⟨B' _ b0, B' _ e0⟩, ⟨(((B _ b0).mul (B _ ef)).add one).mono (by decide), ((B _ e0).mul (B _ ef)).mono (by decide)⟩, B' _ b2, B' _ e2'⟩
    simp only [FD.sSeq_ap, FD.sNext_ap, FD.sBrk_ap, FD.sCont_ap, FD.sIf_ap, FD.sSet_ap, FD.sSetL_ap, FD.sDrop_ap, FD.sRet_ap, FD.sRetN_ap, FD.sFor_ap, FD.sAsg_ap, FD.sRaise_ap, FD.sAppend_ap, FD.sSetIx_ap, FD.eC_ap, FD.eVar_0, FD.eVar_s, FD.e1_ap, FD.e2_ap, FD.t1_ap, FD.t2_ap, FD.eT_ap, FD.tAnd_ap, FD.tOr_ap, FD.tNot_ap, FD.eIf_ap, FD.aNil_ap, FD.aCons_ap, FD.eTup_ap, FD.lLst_ap, FD.eL_ap, FD.eB_ap, FD.eCallR_ap, FD.eAnd_ap, FD.eOr_ap, FD.eNot_ap, FD.eChain_ap, FD.oSeq_ap, FD.oRange_ap, FD.oNone_ap, FD.oInt_ap, FD.lCut_ap, FD.gCutL_lst, FD.gCutL_fls, FD.frzD_int, FD.frzD_bl, FD.frzD_str, FD.frzD_non, FD.frzD_nil, FD.frzD_lst, FD.frzD_fls, FD.outS_nx, FD.outS_rt, FD.outS_exc, FD.runD_eq, FD.Out.bind_ok, FD.Out.bind_exc, FD.Out.bind_bad, FD.stE_ok, FD.stE_exc, FD.stE_bad, FD.andThen_nx, FD.andThen_bk, FD.andThen_ct, FD.andThen_rt, FD.andThen_exc, FD.andThen_bad, FD.ofO_some, FD.ofO_none, FD.Lo.d_sh, FD.Lo.d_ol, FD.Lo.d_od, FD.frz_nil, FD.frz_cons, FD.frz1_0, FD.frz1_n, FD.frz1_s, FD.uName_ap, FD.uTup_ap, FD.uCons_ap, FD.uNil_ap, FD.turn_nx, FD.turn_ct, FD.turn_bk, FD.turn_rt, FD.turn_exc, FD.forD_nil, FD.forD_n, FD.atI_0, FD.atI_1, FD.atI_2, FD.atI_3, FD.unset_rt, FD.unset_nx, FD.unset_bk, FD.unset_ct, Option.bind_some, Option.map_some, FD.gI_int, FD.gI0_int, FD.cI_int, FD.gAdd_int, FD.gNeg_int, FD.eqD_int, FD.eqD_str, FD.eqD_bl, FD.eqD_non, FD.neg2_eq, FD.blD_bl, FD.truD_non, FD.truD_bl, FD.truD_int, FD.truD_tup, FD.truD_lst, FD.truD_fls, FD.truD_dic, FD.Dt.seq_tup, FD.Dt.seq_lst, FD.Dt.seq_fls, FD.gLen_tup, FD.gLen_lst, FD.gLen_fls, FD.gInt_int, FD.gInt_bl, FD.gAbs_int, FD.gGcd_int, FD.gIx_tup, FD.gIx_lst, FD.gIx_fls, FD.isi_int_int, FD.isi_int_bool, FD.isi_bool_int, FD.isi_bool_bool, FD.isi_tup, FD.isi_lst, List.map_cons, List.map_nil, List.length_cons, List.length_nil, List.cons_append, List.nil_append, List.set_cons_zero, List.set_cons_succ, List.getElem?_cons_zero, List.getElem?_cons_succ, Nat.reduceAdd, Nat.reduceSub, Nat.zero_add, Nat.sub_self, List.replicate_zero, List.replicate_succ, Nat.reduceLeDiff, if_true, if_false, Bool.false_eq_true, Bool.not_true, Bool.not_false, decide_eq_true_eq, pow10, p20, k0, k1, k2, k3, k4, k5, k7, k8, k9, nzB_of z4, nzB_of z5, hl, oRng_1, sB, hn, rng3, s0, s1, s2, t0, t1', t2', tf, m0, m1, m2, m3, m4, a0, a1, a2, a3, a4, a5, Nat.reduceLT, h, ix31, beq_self_eq_true, row2, q01, q02, q03, q04, q12, q13, q14, q21, q23, q24, q31, q32, q34, q41, q42, q43]
  · refine ⟨n0, d0, (-n0), d0, n2, d2, ?_, ⟨z0, z0, z2⟩, ⟨B' _ b0, B' _ e0⟩, ⟨(B' _ b0).neg, B' _ e0⟩, B' _ b2, B' _ e2'⟩
    simp only [FD.sSeq_ap, FD.sNext_ap, FD.sBrk_ap, FD.sCont_ap, FD.sIf_ap, FD.sSet_ap, FD.sSetL_ap, FD.sDrop_ap, FD.sRet_ap, FD.sRetN_ap, FD.sFor_ap, FD.sAsg_ap, FD.sRaise_ap, FD.sAppend_ap, FD.sSetIx_ap, FD.eC_ap, FD.eVar_0, FD.eVar_s, FD.e1_ap, FD.e2_ap, FD.t1_ap, FD.t2_ap, FD.eT_ap, FD.tAnd_ap, FD.tOr_ap, FD.tNot_ap, FD.eIf_ap, FD.aNil_ap, FD.aCons_ap, FD.eTup_ap, FD.lLst_ap, FD.eL_ap, FD.eB_ap, FD.eCallR_ap, FD.eAnd_ap, FD.eOr_ap, FD.eNot_ap, FD.eChain_ap, FD.oSeq_ap, FD.oRange_ap, FD.oNone_ap, FD.oInt_ap, FD.lCut_ap, FD.gCutL_lst, FD.gCutL_fls, FD.frzD_int, FD.frzD_bl, FD.frzD_str, FD.frzD_non, FD.frzD_nil, FD.frzD_lst, FD.frzD_fls, FD.outS_nx, FD.outS_rt, FD.outS_exc, FD.runD_eq, FD.Out.bind_ok, FD.Out.bind_exc, FD.Out.bind_bad, FD.stE_ok, FD.stE_exc, FD.stE_bad, FD.andThen_nx, FD.andThen_bk, FD.andThen_ct, FD.andThen_rt, FD.andThen_exc, FD.andThen_bad, FD.ofO_some, FD.ofO_none, FD.Lo.d_sh, FD.Lo.d_ol, FD.Lo.d_od, FD.frz_nil, FD.frz_cons, FD.frz1_0, FD.frz1_n, FD.frz1_s, FD.uName_ap, FD.uTup_ap, FD.uCons_ap, FD.uNil_ap, FD.turn_nx, FD.turn_ct, FD.turn_bk, FD.turn_rt, FD.turn_exc, FD.forD_nil, FD.forD_n, FD.atI_0, FD.atI_1, FD.atI_2, FD.atI_3, FD.unset_rt, FD.unset_nx, FD.unset_bk, FD.unset_ct, Option.bind_some, Option.map_some, FD.gI_int, FD.gI0_int, FD.cI_int, FD.gAdd_int, FD.gNeg_int, FD.eqD_int, FD.eqD_str, FD.eqD_bl, FD.eqD_non, FD.neg2_eq, FD.blD_bl, FD.truD_non, FD.truD_bl, FD.truD_int, FD.truD_tup, FD.truD_lst, FD.truD_fls, FD.truD_dic, FD.Dt.seq_tup, FD.Dt.seq_lst, FD.Dt.seq_fls, FD.gLen_tup, FD.gLen_lst, FD.gLen_fls, FD.gInt_int, FD.gInt_bl, FD.gAbs_int, FD.gGcd_int, FD.gIx_tup, FD.gIx_lst, FD.gIx_fls, FD.isi_int_int, FD.isi_int_bool, FD.isi_bool_int, FD.isi_bool_bool, FD.isi_tup, FD.isi_lst, List.map_cons, List.map_nil, List.length_cons, List.length_nil, List.cons_append, List.nil_append, List.set_cons_zero, List.set_cons_succ, List.getElem?_cons_zero, List.getElem?_cons_succ, Nat.reduceAdd, Nat.reduceSub, Nat.zero_add, Nat.sub_self, List.replicate_zero, List.replicate_succ, Nat.reduceLeDiff, if_true, if_false, Bool.false_eq_true, Bool.not_true, Bool.not_false, decide_eq_true_eq, pow10, p20, k0, k1, k2, k3, k4, k5, k7, k8, k9, nzB_of z4, nzB_of z5, hl, oRng_1, sB, hn, rng3, s0, s1, s2, t0, t1', t2', tf, m0, m1, m2, m3, m4, a0, a1, a2, a3, a4, a5, Nat.reduceLT, h, ix31, beq_self_eq_true, row2, q01, q02, q03, q04, q12, q13, q14, q21, q23, q24, q31, q32, q34, q41, q42, q43]
  · refine ⟨n0, d0, n1, d0, n2, d2, ?_, ⟨z0, z0, z2⟩, ⟨B' _ b0, B' _ e0⟩, ⟨B' _ b1, B' _ e0⟩, B' _ b2, B' _ e2'⟩
    simp only [FD.sSeq_ap, FD.sNext_ap, FD.sBrk_ap, FD.sCont_ap, FD.sIf_ap, FD.sSet_ap, FD.sSetL_ap, FD.sDrop_ap, FD.sRet_ap, FD.sRetN_ap, FD.sFor_ap, FD.sAsg_ap, FD.sRaise_ap, FD.sAppend_ap, FD.sSetIx_ap, FD.eC_ap, FD.eVar_0, FD.eVar_s, FD.e1_ap, FD.e2_ap, FD.t1_ap, FD.t2_ap, FD.eT_ap, FD.tAnd_ap, FD.tOr_ap, FD.tNot_ap, FD.eIf_ap, FD.aNil_ap, FD.aCons_ap, FD.eTup_ap, FD.lLst_ap, FD.eL_ap, FD.eB_ap, FD.eCallR_ap, FD.eAnd_ap, FD.eOr_ap, FD.eNot_ap, FD.eChain_ap, FD.oSeq_ap, FD.oRange_ap, FD.oNone_ap, FD.oInt_ap, FD.lCut_ap, FD.gCutL_lst, FD.gCutL_fls, FD.frzD_int, FD.frzD_bl, FD.frzD_str, FD.frzD_non, FD.frzD_nil, FD.frzD_lst, FD.frzD_fls, FD.outS_nx, FD.outS_rt, FD.outS_exc, FD.runD_eq, FD.Out.bind_ok, FD.Out.bind_exc, FD.Out.bind_bad, FD.stE_ok, FD.stE_exc, FD.stE_bad, FD.andThen_nx, FD.andThen_bk, FD.andThen_ct, FD.andThen_rt, FD.andThen_exc, FD.andThen_bad, FD.ofO_some, FD.ofO_none, FD.Lo.d_sh, FD.Lo.d_ol, FD.Lo.d_od, FD.frz_nil, FD.frz_cons, FD.frz1_0, FD.frz1_n, FD.frz1_s, FD.uName_ap, FD.uTup_ap, FD.uCons_ap, FD.uNil_ap, FD.turn_nx, FD.turn_ct, FD.turn_bk, FD.turn_rt, FD.turn_exc, FD.forD_nil, FD.forD_n, FD.atI_0, FD.atI_1, FD.atI_2, FD.atI_3, FD.unset_rt, FD.unset_nx, FD.unset_bk, FD.unset_ct, Option.bind_some, Option.map_some, FD.gI_int, FD.gI0_int, FD.cI_int, FD.gAdd_int, FD.gNeg_int, FD.eqD_int, FD.eqD_str, FD.eqD_bl, FD.eqD_non, FD.neg2_eq, FD.blD_bl, FD.truD_non, FD.truD_bl, FD.truD_int, FD.truD_tup, FD.truD_lst, FD.truD_fls, FD.truD_dic, FD.Dt.seq_tup, FD.Dt.seq_lst, FD.Dt.seq_fls, FD.gLen_tup, FD.gLen_lst, FD.gLen_fls, FD.gInt_int, FD.gInt_bl, FD.gAbs_int, FD.gGcd_int, FD.gIx_tup, FD.gIx_lst, FD.gIx_fls, FD.isi_int_int, FD.isi_int_bool, FD.isi_bool_int, FD.isi_bool_bool, FD.isi_tup, FD.isi_lst, List.map_cons, List.map_nil, List.length_cons, List.length_nil, List.cons_append, List.nil_append, List.set_cons_zero, List.set_cons_succ, List.getElem?_cons_zero, List.getElem?_cons_succ, Nat.reduceAdd, Nat.reduceSub, Nat.zero_add, Nat.sub_self, List.replicate_zero, List.replicate_succ, Nat.reduceLeDiff, if_true, if_false, Bool.false_eq_true, Bool.not_true, Bool.not_false, decide_eq_true_eq, pow10, p20, k0, k1, k2, k3, k4, k5, k7, k8, k9, nzB_of z4, nzB_of z5, hl, oRng_1, sB, hn, rng3, s0, s1, s2, t0, t1', t2', tf, m0, m1, m2, m3, m4, a0, a1, a2, a3, a4, a5, Nat.reduceLT, h, ix31, beq_self_eq_true, row2, q01, q02, q03, q04, q12, q13, q14, q21, q23, q24, q31, q32, q34, q41, q42, q43]
end Lk00

namespace Lk00
open PySem L2 FD
variable {P : Program} {w : World} {K : PySem.W.Frag} {mg : Str → Option Value} {base : Heap} {cs : Cs}
theorem frz_row2 (n d : Int) (lk : List Nat) (ρ : FD.Env) : frzD (row2 n d) lk ρ = frz lk ρ := rfl
theorem plain (T : Tx P w K mg base cs) : ∀ ns : List Int, ns.length ≤ 63 → (∀ z ∈ ns, Builtin.Int.intBits z ≤ 1048576) → runD 10 (b_law K cs) [.fls (ns.map .int)] = .ok (.bl true) := by
  intro ns _ _
  obtain ⟨n0, d0, n1, d1, n2, d2, hf, ⟨z0, z1, z2⟩, ⟨bn0, bd0⟩, ⟨bn1, bd1⟩, bn2, bd2⟩ := e_fractions (K := K) (cs := cs) ns
  obtain ⟨c6, k6⟩ := e_cell (K := K) (cs := cs) ns (k := 6) (by decide) (by decide)
  obtain ⟨c8, k8⟩ := e_cell (K := K) (cs := cs) ns (k := 8) (by decide) (by decide)
  obtain ⟨k, hk, bk⟩ := e_signed (K := K) (cs := cs) (c := c6) (l := 100000000000000000000) (by decide)
  obtain ⟨f, hff, bf, zf⟩ := e_nonzero (K := K) (cs := cs) (c := c8) (l := 100000000000000000000) (by decide)
  have Bk : Bd 140 k := by
    have h : Bd 68 k := by unfold Bd; omega
    exact h.mono (by decide)
  have Bfc : Bd 400 f := by
    have h : Bd 68 f := by unfold Bd; omega
    exact h.mono (by decide)
  have M : ∀ {n d : Int}, d ≠ 0 → Bd 138 n → Bd 138 d → m__law_made K cs [.int n, .int d, .int f] = .ok (.bl true) := fun hd hn hb => e_made hd zf (hn.mono (by decide)) (hb.mono (by decide)) Bfc
  have LW : ∀ {n d : Int}, d ≠ 0 → Bd 138 d → m__law_lowest K cs [.int n, .int d] = .ok (fr (Rat.divInt n d)) := fun hd hb => e_lowest hd (hb.mono (by decide))
  have A : Bf 140 (Rat.divInt n0 d0) := Bf.of z0 (bn0.mono (by decide)) (bd0.mono (by decide))
  have B : Bf 140 (Rat.divInt n1 d1) := Bf.of z1 (bn1.mono (by decide)) (bd1.mono (by decide))
  have C : Bf 140 (Rat.divInt n2 d2) := Bf.of z2 (bn2.mono (by decide)) (bd2.mono (by decide))
  have A4 : Bf 400 (Rat.divInt n0 d0) := ⟨A.1.mono (by decide), A.2.mono (by decide)⟩
  have B4 : Bf 400 (Rat.divInt n1 d1) := ⟨B.1.mono (by decide), B.2.mono (by decide)⟩
  have C4 : Bf 400 (Rat.divInt n2 d2) := ⟨C.1.mono (by decide), C.2.mono (by decide)⟩
  unfold b_law
  simp only [FD.sSeq_ap, FD.sNext_ap, FD.sBrk_ap, FD.sCont_ap, FD.sIf_ap, FD.sSet_ap, FD.sSetL_ap, FD.sDrop_ap, FD.sRet_ap, FD.sRetN_ap, FD.sFor_ap, FD.sAsg_ap, FD.sRaise_ap, FD.sAppend_ap, FD.sSetIx_ap, FD.eC_ap, FD.eVar_0, FD.eVar_s, FD.e1_ap, FD.e2_ap, FD.t1_ap, FD.t2_ap, FD.eT_ap, FD.tAnd_ap, FD.tOr_ap, FD.tNot_ap, FD.eIf_ap, FD.aNil_ap, FD.aCons_ap, FD.eTup_ap, FD.lLst_ap, FD.eL_ap, FD.eB_ap, FD.eCallR_ap, FD.eAnd_ap, FD.eOr_ap, FD.eNot_ap, FD.eChain_ap, FD.oSeq_ap, FD.oRange_ap, FD.oNone_ap, FD.oInt_ap, FD.lCut_ap, FD.gCutL_lst, FD.gCutL_fls, FD.frzD_int, FD.frzD_bl, FD.frzD_str, FD.frzD_non, FD.frzD_nil, FD.frzD_lst, FD.frzD_fls, FD.outS_nx, FD.outS_rt, FD.outS_exc, FD.runD_eq, FD.Out.bind_ok, FD.Out.bind_exc, FD.Out.bind_bad, FD.stE_ok, FD.stE_exc, FD.stE_bad, FD.andThen_nx, FD.andThen_bk, FD.andThen_ct, FD.andThen_rt, FD.andThen_exc, FD.andThen_bad, FD.ofO_some, FD.ofO_none, FD.Lo.d_sh, FD.Lo.d_ol, FD.Lo.d_od, FD.frz_nil, FD.frz_cons, FD.frz1_0, FD.frz1_n, FD.frz1_s, FD.uName_ap, FD.uTup_ap, FD.uCons_ap, FD.uNil_ap, FD.turn_nx, FD.turn_ct, FD.turn_bk, FD.turn_rt, FD.turn_exc, FD.forD_nil, FD.forD_n, FD.atI_0, FD.atI_1, FD.atI_2, FD.atI_3, FD.unset_rt, FD.unset_nx, FD.unset_bk, FD.unset_ct, Option.bind_some, Option.map_some, FD.gI_int, FD.gI0_int, FD.cI_int, FD.gAdd_int, FD.gNeg_int, FD.eqD_int, FD.eqD_str, FD.eqD_bl, FD.eqD_non, FD.neg2_eq, FD.blD_bl, FD.truD_non, FD.truD_bl, FD.truD_int, FD.truD_tup, FD.truD_lst, FD.truD_fls, FD.truD_dic, FD.Dt.seq_tup, FD.Dt.seq_lst, FD.Dt.seq_fls, FD.gLen_tup, FD.gLen_lst, FD.gLen_fls, FD.gInt_int, FD.gInt_bl, FD.gAbs_int, FD.gGcd_int, FD.gIx_tup, FD.gIx_lst, FD.gIx_fls, FD.isi_int_int, FD.isi_int_bool, FD.isi_bool_int, FD.isi_bool_bool, FD.isi_tup, FD.isi_lst, List.map_cons, List.map_nil, List.length_cons, List.length_nil, List.cons_append, List.nil_append, List.set_cons_zero, List.set_cons_succ, List.getElem?_cons_zero, List.getElem?_cons_succ, Nat.reduceAdd, Nat.reduceSub, Nat.zero_add, Nat.sub_self, List.replicate_zero, List.replicate_succ, Nat.reduceLeDiff, if_true, if_false, Bool.false_eq_true, Bool.not_true, Bool.not_false, decide_eq_true_eq, hf, pow10, p20, k6, k8, hk, hff, r20, r21, M z0 bn0 bd0, M z1 bn1 bd1, M z2 bn2 bd2, e_refused T, e_refused_by_base T, lLc_ap, lcD_cons, lcD_nil, wipe1, wipe0, tYes_ap, noEx_ok, LW z0 bd0, LW z1 bd1, LW z2 bd2, e_steps A4, e_steps B4, e_steps C4, e_sums A B C Bk, e_ordered A4 B4 C4, frz_fr]
end Lk00

namespace Lk00
open PySem L2 PyProof.Rows PySem.Spec FD
/-! ### the head -/
theorem all_mk {w : World} {K : PySem.W.Frag} {h : Heap} {mg : Str → Option Value} {fa : Addr} (X : K.In h) (G : h.Ns mainGlobals mg) (hfa : mg "law" = some (.ref fa))
    {c_ZeroDenominator : Addr} {c_Refused : Addr} {c_NoAnswer : Addr} {c_Unfit : Addr} {c_BadExact : Addr} {c_HouseError : Addr} {nm_ZeroDenominator : Str} {q_ZeroDenominator : Str} {nsa_ZeroDenominator : Addr} {bs_ZeroDenominator : List Value} {sn_ZeroDenominator : List Str} {sub_ZeroDenominator : List Value} {ab_ZeroDenominator : Bool} {col_ZeroDenominator : Option Bool} {dd_ZeroDenominator : Option Addr} {m0_ZeroDenominator : Option Value} {m1_ZeroDenominator : Option Value} {m2_ZeroDenominator : Option Value} {m3_ZeroDenominator : Option Value} {m5_ZeroDenominator : Option Value} {fi_ZeroDenominator : Addr} {oc_ZeroDenominator : Value} {od_ZeroDenominator : Option Addr} {kV_ZeroDenominator : Value} {dc_ZeroDenominator : Value} {pm_ZeroDenominator : Value} {an_ZeroDenominator : Option Addr} {cda_ZeroDenominator : Addr} {ct_ZeroDenominator : Value} {cc_ZeroDenominator : Addr} {sl_ZeroDenominator : Array (Option Value)} {cl_ZeroDenominator : Value} {cld_ZeroDenominator : Option Addr} {csl_ZeroDenominator : Array (Option Value)} {ccl_ZeroDenominator : Value} {cdd_ZeroDenominator : Option Addr} {cvs_ZeroDenominator : Array Value} {ccs_ZeroDenominator : Array (Option Value)} {cf_ZeroDenominator : Str} {ctk_ZeroDenominator : Tok} {f__law_cell : Addr} {oc__law_cell : Value} {od__law_cell : Option Addr} {kV__law_cell : Value} {dc__law_cell : Value} {pm__law_cell : Value} {an__law_cell : Option Addr} {cd__law_cell : Value} {ct__law_cell : Value} {sl__law_cell : Array (Option Value)} {f__law_signed : Addr} {oc__law_signed : Value} {od__law_signed : Option Addr} {kV__law_signed : Value} {dc__law_signed : Value} {pm__law_signed : Value} {an__law_signed : Option Addr} {cd__law_signed : Value} {ct__law_signed : Value} {sl__law_signed : Array (Option Value)} {f__law_nonzero : Addr} {oc__law_nonzero : Value} {od__law_nonzero : Option Addr} {kV__law_nonzero : Value} {dc__law_nonzero : Value} {pm__law_nonzero : Value} {an__law_nonzero : Option Addr} {cd__law_nonzero : Value} {ct__law_nonzero : Value} {sl__law_nonzero : Array (Option Value)} {f__law_shared : Addr} {oc__law_shared : Value} {od__law_shared : Option Addr} {kV__law_shared : Value} {dc__law_shared : Value} {pm__law_shared : Value} {an__law_shared : Option Addr} {cd__law_shared : Value} {ct__law_shared : Value} {sl__law_shared : Array (Option Value)} {f__law_lowest : Addr} {oc__law_lowest : Value} {od__law_lowest : Option Addr} {kV__law_lowest : Value} {dc__law_lowest : Value} {pm__law_lowest : Value} {an__law_lowest : Option Addr} {cd__law_lowest : Value} {ct__law_lowest : Value} {sl__law_lowest : Array (Option Value)} {f__law_fractions : Addr} {oc__law_fractions : Value} {od__law_fractions : Option Addr} {kV__law_fractions : Value} {dc__law_fractions : Value} {pm__law_fractions : Value} {an__law_fractions : Option Addr} {cd__law_fractions : Value} {ct__law_fractions : Value} {sl__law_fractions : Array (Option Value)} {f_exact : Addr} {oc_exact : Value} {od_exact : Option Addr} {kV_exact : Value} {dc_exact : Value} {pm_exact : Value} {an_exact : Option Addr} {cd_exact : Value} {ct_exact : Value} {sl_exact : Array (Option Value)} {dt_exact : Addr} {dk_exact : Tok} {do_exact : Value} {dd_exact : Option Addr} {dn_exact : Nat} {ds_exact : Array (Option Value)} {f__law_is_integer : Addr} {oc__law_is_integer : Value} {od__law_is_integer : Option Addr} {kV__law_is_integer : Value} {dc__law_is_integer : Value} {pm__law_is_integer : Value} {an__law_is_integer : Option Addr} {cd__law_is_integer : Value} {ct__law_is_integer : Value} {sl__law_is_integer : Array (Option Value)} {f__law_right : Addr} {oc__law_right : Value} {od__law_right : Option Addr} {kV__law_right : Value} {dc__law_right : Value} {pm__law_right : Value} {an__law_right : Option Addr} {cd__law_right : Value} {ct__law_right : Value} {sl__law_right : Array (Option Value)} {f__law_made : Addr} {oc__law_made : Value} {od__law_made : Option Addr} {kV__law_made : Value} {dc__law_made : Value} {pm__law_made : Value} {an__law_made : Option Addr} {cd__law_made : Value} {ct__law_made : Value} {sl__law_made : Array (Option Value)} {f__law_refused : Addr} {oc__law_refused : Value} {od__law_refused : Option Addr} {kV__law_refused : Value} {dc__law_refused : Value} {pm__law_refused : Value} {an__law_refused : Option Addr} {cd__law_refused : Value} {ct__law_refused : Value} {sl__law_refused : Array (Option Value)} {f__law_refused_by_base : Addr} {oc__law_refused_by_base : Value} {od__law_refused_by_base : Option Addr} {kV__law_refused_by_base : Value} {dc__law_refused_by_base : Value} {pm__law_refused_by_base : Value} {an__law_refused_by_base : Option Addr} {cd__law_refused_by_base : Value} {ct__law_refused_by_base : Value} {sl__law_refused_by_base : Array (Option Value)} {f_sum_of : Addr} {oc_sum_of : Value} {od_sum_of : Option Addr} {kV_sum_of : Value} {dc_sum_of : Value} {pm_sum_of : Value} {an_sum_of : Option Addr} {cd_sum_of : Value} {ct_sum_of : Value} {sl_sum_of : Array (Option Value)} {f_difference : Addr} {oc_difference : Value} {od_difference : Option Addr} {kV_difference : Value} {dc_difference : Value} {pm_difference : Value} {an_difference : Option Addr} {cd_difference : Value} {ct_difference : Value} {sl_difference : Array (Option Value)} {f_times : Addr} {oc_times : Value} {od_times : Option Addr} {kV_times : Value} {dc_times : Value} {pm_times : Value} {an_times : Option Addr} {cd_times : Value} {ct_times : Value} {sl_times : Array (Option Value)} {f__law_sums : Addr} {oc__law_sums : Value} {od__law_sums : Option Addr} {kV__law_sums : Value} {dc__law_sums : Value} {pm__law_sums : Value} {an__law_sums : Option Addr} {cd__law_sums : Value} {ct__law_sums : Value} {sl__law_sums : Array (Option Value)} {f_compared : Addr} {oc_compared : Value} {od_compared : Option Addr} {kV_compared : Value} {dc_compared : Value} {pm_compared : Value} {an_compared : Option Addr} {cd_compared : Value} {ct_compared : Value} {sl_compared : Array (Option Value)} {f_greatest_of : Addr} {oc_greatest_of : Value} {od_greatest_of : Option Addr} {kV_greatest_of : Value} {dc_greatest_of : Value} {pm_greatest_of : Value} {an_greatest_of : Option Addr} {cd_greatest_of : Value} {ct_greatest_of : Value} {sl_greatest_of : Array (Option Value)} {f_least_of : Addr} {oc_least_of : Value} {od_least_of : Option Addr} {kV_least_of : Value} {dc_least_of : Value} {pm_least_of : Value} {an_least_of : Option Addr} {cd_least_of : Value} {ct_least_of : Value} {sl_least_of : Array (Option Value)} {f__law_sign : Addr} {oc__law_sign : Value} {od__law_sign : Option Addr} {kV__law_sign : Value} {dc__law_sign : Value} {pm__law_sign : Value} {an__law_sign : Option Addr} {cd__law_sign : Value} {ct__law_sign : Value} {sl__law_sign : Array (Option Value)} {f__law_extreme : Addr} {oc__law_extreme : Value} {od__law_extreme : Option Addr} {kV__law_extreme : Value} {dc__law_extreme : Value} {pm__law_extreme : Value} {an__law_extreme : Option Addr} {cd__law_extreme : Value} {ct__law_extreme : Value} {sl__law_extreme : Array (Option Value)} {f__law_ordered : Addr} {oc__law_ordered : Value} {od__law_ordered : Option Addr} {kV__law_ordered : Value} {dc__law_ordered : Value} {pm__law_ordered : Value} {an__law_ordered : Option Addr} {cd__law_ordered : Value} {ct__law_ordered : Value} {sl__law_ordered : Array (Option Value)} {f_floor_of : Addr} {oc_floor_of : Value} {od_floor_of : Option Addr} {kV_floor_of : Value} {dc_floor_of : Value} {pm_floor_of : Value} {an_floor_of : Option Addr} {cd_floor_of : Value} {ct_floor_of : Value} {sl_floor_of : Array (Option Value)} {f_ceiling_of : Addr} {oc_ceiling_of : Value} {od_ceiling_of : Option Addr} {kV_ceiling_of : Value} {dc_ceiling_of : Value} {pm_ceiling_of : Value} {an_ceiling_of : Option Addr} {cd_ceiling_of : Value} {ct_ceiling_of : Value} {sl_ceiling_of : Array (Option Value)} {f__law_steps : Addr} {oc__law_steps : Value} {od__law_steps : Option Addr} {kV__law_steps : Value} {dc__law_steps : Value} {pm__law_steps : Value} {an__law_steps : Option Addr} {cd__law_steps : Value} {ct__law_steps : Value} {sl__law_steps : Array (Option Value)} {f_law : Addr} {oc_law : Value} {od_law : Option Addr} {kV_law : Value} {dc_law : Value} {pm_law : Value} {an_law : Option Addr} {cd_law : Value} {ct_law : Value} {sl_law : Array (Option Value)}
    (z_ValueError : PySem.W.nsIn K mainGlobals "ValueError" = some none)
    (z_abs : PySem.W.nsIn K mainGlobals "abs" = some none)
    (z_bool : PySem.W.nsIn K mainGlobals "bool" = some none)
    (z_int : PySem.W.nsIn K mainGlobals "int" = some none)
    (z_isinstance : PySem.W.nsIn K mainGlobals "isinstance" = some none)
    (z_len : PySem.W.nsIn K mainGlobals "len" = some none)
    (z_range : PySem.W.nsIn K mainGlobals "range" = some none)
    (z_tuple : PySem.W.nsIn K mainGlobals "tuple" = some none)
    (z_gcd : PySem.W.nsIn K mainGlobals "gcd" = some (some (.builtin "math.gcd")))
    (a_ZeroDenominator : PySem.W.nsIn K mainGlobals "ZeroDenominator" = some (some (.ref c_ZeroDenominator)))
    (a_Refused : PySem.W.nsIn K mainGlobals "Refused" = some (some (.ref c_Refused)))
    (a_NoAnswer : PySem.W.nsIn K mainGlobals "NoAnswer" = some (some (.ref c_NoAnswer)))
    (a_Unfit : PySem.W.nsIn K mainGlobals "Unfit" = some (some (.ref c_Unfit)))
    (a_BadExact : PySem.W.nsIn K mainGlobals "BadExact" = some (some (.ref c_BadExact)))
    (a_HouseError : PySem.W.nsIn K mainGlobals "HouseError" = some (some (.ref c_HouseError)))
    (xl_ZeroDenominator : K.lookup c_ZeroDenominator = some (excClassObj nm_ZeroDenominator q_ZeroDenominator c_ZeroDenominator nsa_ZeroDenominator bs_ZeroDenominator [.ref c_Refused, .ref c_HouseError, .type "ValueError", .type "Exception", .type "BaseException", .type "object"] true sn_ZeroDenominator sub_ZeroDenominator ab_ZeroDenominator col_ZeroDenominator dd_ZeroDenominator m0_ZeroDenominator m1_ZeroDenominator m2_ZeroDenominator m3_ZeroDenominator m5_ZeroDenominator "ValueError.__new__"))
    (sa_ZeroDenominator : PySem.W.findIn K (.ref c_ZeroDenominator) "__setattr__" = some (some (.builtin "object.__setattr__")))
    (ic_ZeroDenominator : PySem.W.findIn K (.ref c_ZeroDenominator) "__init__" = some (some (.ref fi_ZeroDenominator)))
    (ti_ZeroDenominator : PySem.W.typeIn K (.ref fi_ZeroDenominator) = some (.type "function"))
    (kc_ZeroDenominator : PySem.W.keepIn K (.ref c_ZeroDenominator) = true)
    (ex_ZeroDenominator : PySem.W.subIn K (.ref c_ZeroDenominator) (.type "BaseException") = some true)
    (ev_ZeroDenominator : PySem.W.subIn K (.ref c_ZeroDenominator) (.type "ValueError") = some true)
    (ty_ZeroDenominator : PySem.W.typeIn K (.ref c_ZeroDenominator) = some (.type "type"))
    (su_ZeroDenominator : PySem.W.mroIn K c_ZeroDenominator (.ref c_ZeroDenominator) = some true)
    (si_ZeroDenominator : PySem.W.ks_superIn K c_ZeroDenominator c_ZeroDenominator "__init__" = some (some (.builtin "ValueError.__init__")))
    (lf_ZeroDenominator : K.lookup fi_ZeroDenominator = some ⟨oc_ZeroDenominator, od_ZeroDenominator, .func (PySem.W.ksFn "__init__" "ZeroDenominator.__init__" (defArgs s_ZeroDenominator) (defBody s_ZeroDenominator) (defScope s_ZeroDenominator) .none kV_ZeroDenominator dc_ZeroDenominator pm_ZeroDenominator an_ZeroDenominator (.ref cda_ZeroDenominator) ct_ZeroDenominator cc_ZeroDenominator), sl_ZeroDenominator⟩)
    (cd_ZeroDenominator : PySem.W.codeIn K (.ref cda_ZeroDenominator) "ZeroDenominator.__init__" = true)
    (ce_ZeroDenominator : K.lookup cc_ZeroDenominator = some ⟨cl_ZeroDenominator, cld_ZeroDenominator, .cell (some (.ref c_ZeroDenominator)), csl_ZeroDenominator⟩)
    (co_ZeroDenominator : K.lookup cda_ZeroDenominator = some ⟨ccl_ZeroDenominator, cdd_ZeroDenominator, .fields cvs_ZeroDenominator, ccs_ZeroDenominator⟩)
    (cs_ZeroDenominator : cvs_ZeroDenominator[2]? = some (.str cf_ZeroDenominator ctk_ZeroDenominator))
    (cf_ZeroDenominator : ((PySem.Challenge.pw_bidehall_k00_exact_numbers.main.file : Str) == cf_ZeroDenominator) = true)
    (hg_ZeroDenominator : PySem.W.findIn K (.ref c_ZeroDenominator) "__getattribute__" = some (some (.builtin "BaseException.__getattribute__")))
    (hk_ZeroDenominator : PySem.W.findIn K (.ref c_ZeroDenominator) "__getattr__" = some none)
    (hd_ZeroDenominator : PySem.W.hasDictIn K c_ZeroDenominator = true)
    (ha_ZeroDenominator : PySem.W.findIn K (.ref c_ZeroDenominator) "__class__" = some (some (.builtin "object.__class__")))
    (ho_ZeroDenominator : PySem.W.mroIn K c_ZeroDenominator (.type "object") = some true)
    (sb_ZeroDenominator_ZeroDenominator : PySem.W.subIn K (.ref c_ZeroDenominator) (.ref c_ZeroDenominator) = some true)
    (sb_ZeroDenominator_HouseError : PySem.W.subIn K (.ref c_ZeroDenominator) (.ref c_HouseError) = some true)
    (sb_ZeroDenominator_BadExact : PySem.W.subIn K (.ref c_ZeroDenominator) (.ref c_BadExact) = some false)
    (ne_ZeroDenominator_BadExact : (Value.ref c_ZeroDenominator == Value.ref c_BadExact) = false)
    (sb_ZeroDenominator_Unfit : PySem.W.subIn K (.ref c_ZeroDenominator) (.ref c_Unfit) = some false)
    (ne_ZeroDenominator_Unfit : (Value.ref c_ZeroDenominator == Value.ref c_Unfit) = false)
    (sb_ZeroDenominator_NoAnswer : PySem.W.subIn K (.ref c_ZeroDenominator) (.ref c_NoAnswer) = some false)
    (ne_ZeroDenominator_NoAnswer : (Value.ref c_ZeroDenominator == Value.ref c_NoAnswer) = false)
    (sb_ZeroDenominator_Refused : PySem.W.subIn K (.ref c_ZeroDenominator) (.ref c_Refused) = some true)
    (ne_ZeroDenominator_Refused : (Value.ref c_ZeroDenominator == Value.ref c_Refused) = false)
    (sb_ZeroDenominator_ValueError : PySem.W.subIn K (.ref c_ZeroDenominator) (.type "ValueError") = some true)
    (ci_ZeroDenominator : PySem.W.isClsIn K c_ZeroDenominator = true)
    (ct_ZeroDenominator : PySem.W.typeIn K (.ref c_ZeroDenominator) = some (.type "type"))
    (cb_ZeroDenominator : PySem.W.subIn K (.ref c_ZeroDenominator) (.type "BaseException") = some true)
    (ci_HouseError : PySem.W.isClsIn K c_HouseError = true)
    (ct_HouseError : PySem.W.typeIn K (.ref c_HouseError) = some (.type "type"))
    (cb_HouseError : PySem.W.subIn K (.ref c_HouseError) (.type "BaseException") = some true)
    (ci_BadExact : PySem.W.isClsIn K c_BadExact = true)
    (ct_BadExact : PySem.W.typeIn K (.ref c_BadExact) = some (.type "type"))
    (cb_BadExact : PySem.W.subIn K (.ref c_BadExact) (.type "BaseException") = some true)
    (ci_Unfit : PySem.W.isClsIn K c_Unfit = true)
    (ct_Unfit : PySem.W.typeIn K (.ref c_Unfit) = some (.type "type"))
    (cb_Unfit : PySem.W.subIn K (.ref c_Unfit) (.type "BaseException") = some true)
    (ci_NoAnswer : PySem.W.isClsIn K c_NoAnswer = true)
    (ct_NoAnswer : PySem.W.typeIn K (.ref c_NoAnswer) = some (.type "type"))
    (cb_NoAnswer : PySem.W.subIn K (.ref c_NoAnswer) (.type "BaseException") = some true)
    (ci_Refused : PySem.W.isClsIn K c_Refused = true)
    (ct_Refused : PySem.W.typeIn K (.ref c_Refused) = some (.type "type"))
    (cb_Refused : PySem.W.subIn K (.ref c_Refused) (.type "BaseException") = some true)
    (any : PySem.W.nsIn K PySem.cStatics "thirdparty.any" = some none)
    (zsup : PySem.W.nsIn K mainGlobals "super" = some none)
    (hn : PySem.W.specialIn K (.builtin "object.__class__") "__get__" = some (some (.builtin "getset_descriptor.__get__")))
    (ht : PySem.W.takesIn K (.builtin "object.__class__") = some true)
    (a__law_cell : PySem.W.nsIn K mainGlobals "_law_cell" = some (some (.ref f__law_cell)))
    (l__law_cell : K.lookup f__law_cell = some ⟨oc__law_cell, od__law_cell, .func (PySem.W.fnOf "_law_cell" "_law_cell" (defArgs s__law_cell) (defBody s__law_cell) (defScope s__law_cell) .none kV__law_cell dc__law_cell pm__law_cell an__law_cell cd__law_cell ct__law_cell), sl__law_cell⟩)
    (o__law_cell : PySem.W.codeIn K cd__law_cell "_law_cell" = true)
    (k__law_cell : PySem.W.keepIn K (.ref f__law_cell) = true)
    (a__law_signed : PySem.W.nsIn K mainGlobals "_law_signed" = some (some (.ref f__law_signed)))
    (l__law_signed : K.lookup f__law_signed = some ⟨oc__law_signed, od__law_signed, .func (PySem.W.fnOf "_law_signed" "_law_signed" (defArgs s__law_signed) (defBody s__law_signed) (defScope s__law_signed) .none kV__law_signed dc__law_signed pm__law_signed an__law_signed cd__law_signed ct__law_signed), sl__law_signed⟩)
    (o__law_signed : PySem.W.codeIn K cd__law_signed "_law_signed" = true)
    (k__law_signed : PySem.W.keepIn K (.ref f__law_signed) = true)
    (a__law_nonzero : PySem.W.nsIn K mainGlobals "_law_nonzero" = some (some (.ref f__law_nonzero)))
    (l__law_nonzero : K.lookup f__law_nonzero = some ⟨oc__law_nonzero, od__law_nonzero, .func (PySem.W.fnOf "_law_nonzero" "_law_nonzero" (defArgs s__law_nonzero) (defBody s__law_nonzero) (defScope s__law_nonzero) .none kV__law_nonzero dc__law_nonzero pm__law_nonzero an__law_nonzero cd__law_nonzero ct__law_nonzero), sl__law_nonzero⟩)
    (o__law_nonzero : PySem.W.codeIn K cd__law_nonzero "_law_nonzero" = true)
    (k__law_nonzero : PySem.W.keepIn K (.ref f__law_nonzero) = true)
    (a__law_shared : PySem.W.nsIn K mainGlobals "_law_shared" = some (some (.ref f__law_shared)))
    (l__law_shared : K.lookup f__law_shared = some ⟨oc__law_shared, od__law_shared, .func (PySem.W.fnOf "_law_shared" "_law_shared" (defArgs s__law_shared) (defBody s__law_shared) (defScope s__law_shared) .none kV__law_shared dc__law_shared pm__law_shared an__law_shared cd__law_shared ct__law_shared), sl__law_shared⟩)
    (o__law_shared : PySem.W.codeIn K cd__law_shared "_law_shared" = true)
    (k__law_shared : PySem.W.keepIn K (.ref f__law_shared) = true)
    (a__law_lowest : PySem.W.nsIn K mainGlobals "_law_lowest" = some (some (.ref f__law_lowest)))
    (l__law_lowest : K.lookup f__law_lowest = some ⟨oc__law_lowest, od__law_lowest, .func (PySem.W.fnOf "_law_lowest" "_law_lowest" (defArgs s__law_lowest) (defBody s__law_lowest) (defScope s__law_lowest) .none kV__law_lowest dc__law_lowest pm__law_lowest an__law_lowest cd__law_lowest ct__law_lowest), sl__law_lowest⟩)
    (o__law_lowest : PySem.W.codeIn K cd__law_lowest "_law_lowest" = true)
    (k__law_lowest : PySem.W.keepIn K (.ref f__law_lowest) = true)
    (a__law_fractions : PySem.W.nsIn K mainGlobals "_law_fractions" = some (some (.ref f__law_fractions)))
    (l__law_fractions : K.lookup f__law_fractions = some ⟨oc__law_fractions, od__law_fractions, .func (PySem.W.fnOf "_law_fractions" "_law_fractions" (defArgs s__law_fractions) (defBody s__law_fractions) (defScope s__law_fractions) .none kV__law_fractions dc__law_fractions pm__law_fractions an__law_fractions cd__law_fractions ct__law_fractions), sl__law_fractions⟩)
    (o__law_fractions : PySem.W.codeIn K cd__law_fractions "_law_fractions" = true)
    (k__law_fractions : PySem.W.keepIn K (.ref f__law_fractions) = true)
    (a_exact : PySem.W.nsIn K mainGlobals "exact" = some (some (.ref f_exact)))
    (l_exact : K.lookup f_exact = some ⟨oc_exact, od_exact, .func (PySem.W.fnOf "exact" "exact" (defArgs s_exact) (defBody s_exact) (defScope s_exact) (.ref dt_exact) kV_exact dc_exact pm_exact an_exact cd_exact ct_exact), sl_exact⟩)
    (o_exact : PySem.W.codeIn K cd_exact "exact" = true)
    (k_exact : PySem.W.keepIn K (.ref f_exact) = true)
    (d_exact : K.lookup dt_exact = some ⟨do_exact, dd_exact, .seq #[.int 1 dk_exact] dn_exact, ds_exact⟩)
    (a__law_is_integer : PySem.W.nsIn K mainGlobals "_law_is_integer" = some (some (.ref f__law_is_integer)))
    (l__law_is_integer : K.lookup f__law_is_integer = some ⟨oc__law_is_integer, od__law_is_integer, .func (PySem.W.fnOf "_law_is_integer" "_law_is_integer" (defArgs s__law_is_integer) (defBody s__law_is_integer) (defScope s__law_is_integer) .none kV__law_is_integer dc__law_is_integer pm__law_is_integer an__law_is_integer cd__law_is_integer ct__law_is_integer), sl__law_is_integer⟩)
    (o__law_is_integer : PySem.W.codeIn K cd__law_is_integer "_law_is_integer" = true)
    (k__law_is_integer : PySem.W.keepIn K (.ref f__law_is_integer) = true)
    (a__law_right : PySem.W.nsIn K mainGlobals "_law_right" = some (some (.ref f__law_right)))
    (l__law_right : K.lookup f__law_right = some ⟨oc__law_right, od__law_right, .func (PySem.W.fnOf "_law_right" "_law_right" (defArgs s__law_right) (defBody s__law_right) (defScope s__law_right) .none kV__law_right dc__law_right pm__law_right an__law_right cd__law_right ct__law_right), sl__law_right⟩)
    (o__law_right : PySem.W.codeIn K cd__law_right "_law_right" = true)
    (k__law_right : PySem.W.keepIn K (.ref f__law_right) = true)
    (a__law_made : PySem.W.nsIn K mainGlobals "_law_made" = some (some (.ref f__law_made)))
    (l__law_made : K.lookup f__law_made = some ⟨oc__law_made, od__law_made, .func (PySem.W.fnOf "_law_made" "_law_made" (defArgs s__law_made) (defBody s__law_made) (defScope s__law_made) .none kV__law_made dc__law_made pm__law_made an__law_made cd__law_made ct__law_made), sl__law_made⟩)
    (o__law_made : PySem.W.codeIn K cd__law_made "_law_made" = true)
    (k__law_made : PySem.W.keepIn K (.ref f__law_made) = true)
    (a__law_refused : PySem.W.nsIn K mainGlobals "_law_refused" = some (some (.ref f__law_refused)))
    (l__law_refused : K.lookup f__law_refused = some ⟨oc__law_refused, od__law_refused, .func (PySem.W.fnOf "_law_refused" "_law_refused" (defArgs s__law_refused) (defBody s__law_refused) (defScope s__law_refused) .none kV__law_refused dc__law_refused pm__law_refused an__law_refused cd__law_refused ct__law_refused), sl__law_refused⟩)
    (o__law_refused : PySem.W.codeIn K cd__law_refused "_law_refused" = true)
    (k__law_refused : PySem.W.keepIn K (.ref f__law_refused) = true)
    (a__law_refused_by_base : PySem.W.nsIn K mainGlobals "_law_refused_by_base" = some (some (.ref f__law_refused_by_base)))
    (l__law_refused_by_base : K.lookup f__law_refused_by_base = some ⟨oc__law_refused_by_base, od__law_refused_by_base, .func (PySem.W.fnOf "_law_refused_by_base" "_law_refused_by_base" (defArgs s__law_refused_by_base) (defBody s__law_refused_by_base) (defScope s__law_refused_by_base) .none kV__law_refused_by_base dc__law_refused_by_base pm__law_refused_by_base an__law_refused_by_base cd__law_refused_by_base ct__law_refused_by_base), sl__law_refused_by_base⟩)
    (o__law_refused_by_base : PySem.W.codeIn K cd__law_refused_by_base "_law_refused_by_base" = true)
    (k__law_refused_by_base : PySem.W.keepIn K (.ref f__law_refused_by_base) = true)
    (a_sum_of : PySem.W.nsIn K mainGlobals "sum_of" = some (some (.ref f_sum_of)))
    (l_sum_of : K.lookup f_sum_of = some ⟨oc_sum_of, od_sum_of, .func (PySem.W.fnOf "sum_of" "sum_of" (defArgs s_sum_of) (defBody s_sum_of) (defScope s_sum_of) .none kV_sum_of dc_sum_of pm_sum_of an_sum_of cd_sum_of ct_sum_of), sl_sum_of⟩)
    (o_sum_of : PySem.W.codeIn K cd_sum_of "sum_of" = true)
    (k_sum_of : PySem.W.keepIn K (.ref f_sum_of) = true)
    (a_difference : PySem.W.nsIn K mainGlobals "difference" = some (some (.ref f_difference)))
    (l_difference : K.lookup f_difference = some ⟨oc_difference, od_difference, .func (PySem.W.fnOf "difference" "difference" (defArgs s_difference) (defBody s_difference) (defScope s_difference) .none kV_difference dc_difference pm_difference an_difference cd_difference ct_difference), sl_difference⟩)
    (o_difference : PySem.W.codeIn K cd_difference "difference" = true)
    (k_difference : PySem.W.keepIn K (.ref f_difference) = true)
    (a_times : PySem.W.nsIn K mainGlobals "times" = some (some (.ref f_times)))
    (l_times : K.lookup f_times = some ⟨oc_times, od_times, .func (PySem.W.fnOf "times" "times" (defArgs s_times) (defBody s_times) (defScope s_times) .none kV_times dc_times pm_times an_times cd_times ct_times), sl_times⟩)
    (o_times : PySem.W.codeIn K cd_times "times" = true)
    (k_times : PySem.W.keepIn K (.ref f_times) = true)
    (a__law_sums : PySem.W.nsIn K mainGlobals "_law_sums" = some (some (.ref f__law_sums)))
    (l__law_sums : K.lookup f__law_sums = some ⟨oc__law_sums, od__law_sums, .func (PySem.W.fnOf "_law_sums" "_law_sums" (defArgs s__law_sums) (defBody s__law_sums) (defScope s__law_sums) .none kV__law_sums dc__law_sums pm__law_sums an__law_sums cd__law_sums ct__law_sums), sl__law_sums⟩)
    (o__law_sums : PySem.W.codeIn K cd__law_sums "_law_sums" = true)
    (k__law_sums : PySem.W.keepIn K (.ref f__law_sums) = true)
    (a_compared : PySem.W.nsIn K mainGlobals "compared" = some (some (.ref f_compared)))
    (l_compared : K.lookup f_compared = some ⟨oc_compared, od_compared, .func (PySem.W.fnOf "compared" "compared" (defArgs s_compared) (defBody s_compared) (defScope s_compared) .none kV_compared dc_compared pm_compared an_compared cd_compared ct_compared), sl_compared⟩)
    (o_compared : PySem.W.codeIn K cd_compared "compared" = true)
    (k_compared : PySem.W.keepIn K (.ref f_compared) = true)
    (a_greatest_of : PySem.W.nsIn K mainGlobals "greatest_of" = some (some (.ref f_greatest_of)))
    (l_greatest_of : K.lookup f_greatest_of = some ⟨oc_greatest_of, od_greatest_of, .func (PySem.W.fnOf "greatest_of" "greatest_of" (defArgs s_greatest_of) (defBody s_greatest_of) (defScope s_greatest_of) .none kV_greatest_of dc_greatest_of pm_greatest_of an_greatest_of cd_greatest_of ct_greatest_of), sl_greatest_of⟩)
    (o_greatest_of : PySem.W.codeIn K cd_greatest_of "greatest_of" = true)
    (k_greatest_of : PySem.W.keepIn K (.ref f_greatest_of) = true)
    (a_least_of : PySem.W.nsIn K mainGlobals "least_of" = some (some (.ref f_least_of)))
    (l_least_of : K.lookup f_least_of = some ⟨oc_least_of, od_least_of, .func (PySem.W.fnOf "least_of" "least_of" (defArgs s_least_of) (defBody s_least_of) (defScope s_least_of) .none kV_least_of dc_least_of pm_least_of an_least_of cd_least_of ct_least_of), sl_least_of⟩)
    (o_least_of : PySem.W.codeIn K cd_least_of "least_of" = true)
    (k_least_of : PySem.W.keepIn K (.ref f_least_of) = true)
    (a__law_sign : PySem.W.nsIn K mainGlobals "_law_sign" = some (some (.ref f__law_sign)))
    (l__law_sign : K.lookup f__law_sign = some ⟨oc__law_sign, od__law_sign, .func (PySem.W.fnOf "_law_sign" "_law_sign" (defArgs s__law_sign) (defBody s__law_sign) (defScope s__law_sign) .none kV__law_sign dc__law_sign pm__law_sign an__law_sign cd__law_sign ct__law_sign), sl__law_sign⟩)
    (o__law_sign : PySem.W.codeIn K cd__law_sign "_law_sign" = true)
    (k__law_sign : PySem.W.keepIn K (.ref f__law_sign) = true)
    (a__law_extreme : PySem.W.nsIn K mainGlobals "_law_extreme" = some (some (.ref f__law_extreme)))
    (l__law_extreme : K.lookup f__law_extreme = some ⟨oc__law_extreme, od__law_extreme, .func (PySem.W.fnOf "_law_extreme" "_law_extreme" (defArgs s__law_extreme) (defBody s__law_extreme) (defScope s__law_extreme) .none kV__law_extreme dc__law_extreme pm__law_extreme an__law_extreme cd__law_extreme ct__law_extreme), sl__law_extreme⟩)
    (o__law_extreme : PySem.W.codeIn K cd__law_extreme "_law_extreme" = true)
    (k__law_extreme : PySem.W.keepIn K (.ref f__law_extreme) = true)
    (a__law_ordered : PySem.W.nsIn K mainGlobals "_law_ordered" = some (some (.ref f__law_ordered)))
    (l__law_ordered : K.lookup f__law_ordered = some ⟨oc__law_ordered, od__law_ordered, .func (PySem.W.fnOf "_law_ordered" "_law_ordered" (defArgs s__law_ordered) (defBody s__law_ordered) (defScope s__law_ordered) .none kV__law_ordered dc__law_ordered pm__law_ordered an__law_ordered cd__law_ordered ct__law_ordered), sl__law_ordered⟩)
    (o__law_ordered : PySem.W.codeIn K cd__law_ordered "_law_ordered" = true)
    (k__law_ordered : PySem.W.keepIn K (.ref f__law_ordered) = true)
    (a_floor_of : PySem.W.nsIn K mainGlobals "floor_of" = some (some (.ref f_floor_of)))
    (l_floor_of : K.lookup f_floor_of = some ⟨oc_floor_of, od_floor_of, .func (PySem.W.fnOf "floor_of" "floor_of" (defArgs s_floor_of) (defBody s_floor_of) (defScope s_floor_of) .none kV_floor_of dc_floor_of pm_floor_of an_floor_of cd_floor_of ct_floor_of), sl_floor_of⟩)
    (o_floor_of : PySem.W.codeIn K cd_floor_of "floor_of" = true)
    (k_floor_of : PySem.W.keepIn K (.ref f_floor_of) = true)
    (a_ceiling_of : PySem.W.nsIn K mainGlobals "ceiling_of" = some (some (.ref f_ceiling_of)))
    (l_ceiling_of : K.lookup f_ceiling_of = some ⟨oc_ceiling_of, od_ceiling_of, .func (PySem.W.fnOf "ceiling_of" "ceiling_of" (defArgs s_ceiling_of) (defBody s_ceiling_of) (defScope s_ceiling_of) .none kV_ceiling_of dc_ceiling_of pm_ceiling_of an_ceiling_of cd_ceiling_of ct_ceiling_of), sl_ceiling_of⟩)
    (o_ceiling_of : PySem.W.codeIn K cd_ceiling_of "ceiling_of" = true)
    (k_ceiling_of : PySem.W.keepIn K (.ref f_ceiling_of) = true)
    (a__law_steps : PySem.W.nsIn K mainGlobals "_law_steps" = some (some (.ref f__law_steps)))
    (l__law_steps : K.lookup f__law_steps = some ⟨oc__law_steps, od__law_steps, .func (PySem.W.fnOf "_law_steps" "_law_steps" (defArgs s__law_steps) (defBody s__law_steps) (defScope s__law_steps) .none kV__law_steps dc__law_steps pm__law_steps an__law_steps cd__law_steps ct__law_steps), sl__law_steps⟩)
    (o__law_steps : PySem.W.codeIn K cd__law_steps "_law_steps" = true)
    (k__law_steps : PySem.W.keepIn K (.ref f__law_steps) = true)
    (a_law : PySem.W.nsIn K mainGlobals "law" = some (some (.ref f_law)))
    (l_law : K.lookup f_law = some ⟨oc_law, od_law, .func (PySem.W.fnOf "law" "law" (defArgs s_law) (defBody s_law) (defScope s_law) .none kV_law dc_law pm_law an_law cd_law ct_law), sl_law⟩)
    (o_law : PySem.W.codeIn K cd_law "law" = true)
    (k_law : PySem.W.keepIn K (.ref f_law) = true)
    (hmain : ∀ (base : Heap) (cs : Cs), Tx PySem.Challenge.pw_bidehall_k00_exact_numbers w K mg base cs → ∀ ns : List Int, ns.length ≤ 63 → (∀ z ∈ ns, Builtin.Int.intBits z ≤ 1048576) → runD 10 (b_law K cs) [.fls (ns.map .int)] = .ok (.bl true)) :
    ∃ fd : FuncData, (∀ (s : Shared) (v : Value), BindsTo s fd ⟨[v], []⟩ [("_law_script", v)]) ∧ ∀ base : Heap, K.In base → base.Ns mainGlobals mg → FnOk PySem.Challenge.pw_bidehall_k00_exact_numbers w K mg base (L2.CX PySem.Challenge.pw_bidehall_k00_exact_numbers w) 6 fa fd ["_law_script"] (spLaw K) := by
  have e := hfa.symm.trans (PySem.W.mg_of X G a_law)
  cases e
  have X_ZeroDenominator : PySem.FX.XTxt PySem.Challenge.pw_bidehall_k00_exact_numbers K mg c_ZeroDenominator fi_ZeroDenominator cc_ZeroDenominator cda_ZeroDenominator "ZeroDenominator.__init__" (defArgs s_ZeroDenominator) (defBody s_ZeroDenominator) (defScope s_ZeroDenominator) :=
    { cls := ⟨_, _, _, _, [.ref c_Refused, .ref c_HouseError, .type "ValueError", .type "Exception", .type "BaseException", .type "object"], _, _, _, _, _, _, _, _, _, _, xl_ZeroDenominator, by rfl⟩, sa := sa_ZeroDenominator, iC := ic_ZeroDenominator, tI := ti_ZeroDenominator, kC := kc_ZeroDenominator, exC := ex_ZeroDenominator, exVE := ev_ZeroDenominator, tyC := ty_ZeroDenominator, sub := su_ZeroDenominator, supI := si_ZeroDenominator, any := any, mgS := PySem.W.mg_none_of X G zsup, cell := ⟨_, _, _, ce_ZeroDenominator⟩, code := ⟨_, _, _, _, _, _, co_ZeroDenominator, cs_ZeroDenominator, cf_ZeroDenominator⟩,
      top := by decide +kernel, fn := ⟨_, _, _, _, _, _, _, _, lf_ZeroDenominator, cd_ZeroDenominator⟩ }
  have M_ZeroDenominator : ∀ base, PySem.FX.XMk PySem.Challenge.pw_bidehall_k00_exact_numbers w K mg base c_ZeroDenominator fn_ZeroDenominator ok_ZeroDenominator := fun base =>
    PySem.FX.mk0 X_ZeroDenominator rfl rfl (fun s x kV doc pm an ct => .of_eq rfl) (by decide +kernel) rfl rfl rfl rfl rfl rfl (fun L => ⟨rfl, rfl, ⟨_, rfl⟩⟩) (fun L x => PySem.FX.msg_const)
  have TT : ∀ base, Tx PySem.Challenge.pw_bidehall_k00_exact_numbers w K mg base ⟨c_ZeroDenominator, c_Refused, c_NoAnswer, c_Unfit, c_BadExact, c_HouseError⟩ := fun base =>
    { n_ValueError := PySem.W.mg_none_of X G z_ValueError,
      n_abs := PySem.W.mg_none_of X G z_abs,
      n_bool := PySem.W.mg_none_of X G z_bool,
      n_int := PySem.W.mg_none_of X G z_int,
      n_isinstance := PySem.W.mg_none_of X G z_isinstance,
      n_len := PySem.W.mg_none_of X G z_len,
      n_range := PySem.W.mg_none_of X G z_range,
      n_tuple := PySem.W.mg_none_of X G z_tuple,
      n_gcd := PySem.W.mg_of X G z_gcd,
      g_ZeroDenominator := PySem.W.mg_of X G a_ZeroDenominator,
      g_Refused := PySem.W.mg_of X G a_Refused,
      g_NoAnswer := PySem.W.mg_of X G a_NoAnswer,
      g_Unfit := PySem.W.mg_of X G a_Unfit,
      g_BadExact := PySem.W.mg_of X G a_BadExact,
      g_HouseError := PySem.W.mg_of X G a_HouseError,
      m_ZeroDenominator := M_ZeroDenominator base,
      k_ZeroDenominator := kc_ZeroDenominator,
      e_ZeroDenominator := ex_ZeroDenominator,
      t_ZeroDenominator := ty_ZeroDenominator,
      x_ZeroDenominator_ZeroDenominator := exm_of cb_ZeroDenominator ci_ZeroDenominator ct_ZeroDenominator sb_ZeroDenominator_ZeroDenominator,
      x_ZeroDenominator_HouseError := exm_of cb_HouseError ci_HouseError ct_HouseError sb_ZeroDenominator_HouseError,
      i_ZeroDenominator_BadExact := kit_ne ne_ZeroDenominator_BadExact ci_BadExact ct_BadExact sb_ZeroDenominator_BadExact,
      i_ZeroDenominator_Unfit := kit_ne ne_ZeroDenominator_Unfit ci_Unfit ct_Unfit sb_ZeroDenominator_Unfit,
      i_ZeroDenominator_NoAnswer := kit_ne ne_ZeroDenominator_NoAnswer ci_NoAnswer ct_NoAnswer sb_ZeroDenominator_NoAnswer,
      i_ZeroDenominator_Refused := kit_ne ne_ZeroDenominator_Refused ci_Refused ct_Refused sb_ZeroDenominator_Refused,
      i_ZeroDenominator_ValueError := kit_typ (by decide +kernel) sb_ZeroDenominator_ValueError,
      i_ZeroDenominator_ZeroDenominator := kit_self,
      xc := fun C hC => by
          have e := List.mem_singleton.mp hC
          subst e
          exact ⟨hg_ZeroDenominator, hk_ZeroDenominator, ex_ZeroDenominator, hd_ZeroDenominator, ha_ZeroDenominator, hn, ht, ho_ZeroDenominator⟩,
      F__law_cell := ⟨f__law_cell, _, ⟨⟨_, _, _, _, _, _, _, _, _, _, rfl, l__law_cell, o__law_cell, .inl ⟨rfl, rfl⟩, .inl rfl⟩, k__law_cell⟩, PySem.W.mg_of X G a__law_cell⟩,
      F__law_signed := ⟨f__law_signed, _, ⟨⟨_, _, _, _, _, _, _, _, _, _, rfl, l__law_signed, o__law_signed, .inl ⟨rfl, rfl⟩, .inl rfl⟩, k__law_signed⟩, PySem.W.mg_of X G a__law_signed⟩,
      F__law_nonzero := ⟨f__law_nonzero, _, ⟨⟨_, _, _, _, _, _, _, _, _, _, rfl, l__law_nonzero, o__law_nonzero, .inl ⟨rfl, rfl⟩, .inl rfl⟩, k__law_nonzero⟩, PySem.W.mg_of X G a__law_nonzero⟩,
      F__law_shared := ⟨f__law_shared, _, ⟨⟨_, _, _, _, _, _, _, _, _, _, rfl, l__law_shared, o__law_shared, .inl ⟨rfl, rfl⟩, .inl rfl⟩, k__law_shared⟩, PySem.W.mg_of X G a__law_shared⟩,
      F__law_lowest := ⟨f__law_lowest, _, ⟨⟨_, _, _, _, _, _, _, _, _, _, rfl, l__law_lowest, o__law_lowest, .inl ⟨rfl, rfl⟩, .inl rfl⟩, k__law_lowest⟩, PySem.W.mg_of X G a__law_lowest⟩,
      F__law_fractions := ⟨f__law_fractions, _, ⟨⟨_, _, _, _, _, _, _, _, _, _, rfl, l__law_fractions, o__law_fractions, .inl ⟨rfl, rfl⟩, .inl rfl⟩, k__law_fractions⟩, PySem.W.mg_of X G a__law_fractions⟩,
      F_exact := ⟨f_exact, _, ⟨⟨_, _, _, _, _, _, _, _, _, _, rfl, l_exact, o_exact, .inr ⟨by simp, dt_exact, _, [_], dn_exact, rfl, d_exact, rfl, .cons ⟨_, rfl⟩ .nil⟩, .inl rfl⟩, k_exact⟩, PySem.W.mg_of X G a_exact⟩,
      F__law_is_integer := ⟨f__law_is_integer, _, ⟨⟨_, _, _, _, _, _, _, _, _, _, rfl, l__law_is_integer, o__law_is_integer, .inl ⟨rfl, rfl⟩, .inl rfl⟩, k__law_is_integer⟩, PySem.W.mg_of X G a__law_is_integer⟩,
      F__law_right := ⟨f__law_right, _, ⟨⟨_, _, _, _, _, _, _, _, _, _, rfl, l__law_right, o__law_right, .inl ⟨rfl, rfl⟩, .inl rfl⟩, k__law_right⟩, PySem.W.mg_of X G a__law_right⟩,
      F__law_made := ⟨f__law_made, _, ⟨⟨_, _, _, _, _, _, _, _, _, _, rfl, l__law_made, o__law_made, .inl ⟨rfl, rfl⟩, .inl rfl⟩, k__law_made⟩, PySem.W.mg_of X G a__law_made⟩,
      F__law_refused := ⟨f__law_refused, _, ⟨⟨_, _, _, _, _, _, _, _, _, _, rfl, l__law_refused, o__law_refused, .inl ⟨rfl, rfl⟩, .inl rfl⟩, k__law_refused⟩, PySem.W.mg_of X G a__law_refused⟩,
      F__law_refused_by_base := ⟨f__law_refused_by_base, _, ⟨⟨_, _, _, _, _, _, _, _, _, _, rfl, l__law_refused_by_base, o__law_refused_by_base, .inl ⟨rfl, rfl⟩, .inl rfl⟩, k__law_refused_by_base⟩, PySem.W.mg_of X G a__law_refused_by_base⟩,
      F_sum_of := ⟨f_sum_of, _, ⟨⟨_, _, _, _, _, _, _, _, _, _, rfl, l_sum_of, o_sum_of, .inl ⟨rfl, rfl⟩, .inl rfl⟩, k_sum_of⟩, PySem.W.mg_of X G a_sum_of⟩,
      F_difference := ⟨f_difference, _, ⟨⟨_, _, _, _, _, _, _, _, _, _, rfl, l_difference, o_difference, .inl ⟨rfl, rfl⟩, .inl rfl⟩, k_difference⟩, PySem.W.mg_of X G a_difference⟩,
      F_times := ⟨f_times, _, ⟨⟨_, _, _, _, _, _, _, _, _, _, rfl, l_times, o_times, .inl ⟨rfl, rfl⟩, .inl rfl⟩, k_times⟩, PySem.W.mg_of X G a_times⟩,
      F__law_sums := ⟨f__law_sums, _, ⟨⟨_, _, _, _, _, _, _, _, _, _, rfl, l__law_sums, o__law_sums, .inl ⟨rfl, rfl⟩, .inl rfl⟩, k__law_sums⟩, PySem.W.mg_of X G a__law_sums⟩,
      F_compared := ⟨f_compared, _, ⟨⟨_, _, _, _, _, _, _, _, _, _, rfl, l_compared, o_compared, .inl ⟨rfl, rfl⟩, .inl rfl⟩, k_compared⟩, PySem.W.mg_of X G a_compared⟩,
      F_greatest_of := ⟨f_greatest_of, _, ⟨⟨_, _, _, _, _, _, _, _, _, _, rfl, l_greatest_of, o_greatest_of, .inl ⟨rfl, rfl⟩, .inl rfl⟩, k_greatest_of⟩, PySem.W.mg_of X G a_greatest_of⟩,
      F_least_of := ⟨f_least_of, _, ⟨⟨_, _, _, _, _, _, _, _, _, _, rfl, l_least_of, o_least_of, .inl ⟨rfl, rfl⟩, .inl rfl⟩, k_least_of⟩, PySem.W.mg_of X G a_least_of⟩,
      F__law_sign := ⟨f__law_sign, _, ⟨⟨_, _, _, _, _, _, _, _, _, _, rfl, l__law_sign, o__law_sign, .inl ⟨rfl, rfl⟩, .inl rfl⟩, k__law_sign⟩, PySem.W.mg_of X G a__law_sign⟩,
      F__law_extreme := ⟨f__law_extreme, _, ⟨⟨_, _, _, _, _, _, _, _, _, _, rfl, l__law_extreme, o__law_extreme, .inl ⟨rfl, rfl⟩, .inl rfl⟩, k__law_extreme⟩, PySem.W.mg_of X G a__law_extreme⟩,
      F__law_ordered := ⟨f__law_ordered, _, ⟨⟨_, _, _, _, _, _, _, _, _, _, rfl, l__law_ordered, o__law_ordered, .inl ⟨rfl, rfl⟩, .inl rfl⟩, k__law_ordered⟩, PySem.W.mg_of X G a__law_ordered⟩,
      F_floor_of := ⟨f_floor_of, _, ⟨⟨_, _, _, _, _, _, _, _, _, _, rfl, l_floor_of, o_floor_of, .inl ⟨rfl, rfl⟩, .inl rfl⟩, k_floor_of⟩, PySem.W.mg_of X G a_floor_of⟩,
      F_ceiling_of := ⟨f_ceiling_of, _, ⟨⟨_, _, _, _, _, _, _, _, _, _, rfl, l_ceiling_of, o_ceiling_of, .inl ⟨rfl, rfl⟩, .inl rfl⟩, k_ceiling_of⟩, PySem.W.mg_of X G a_ceiling_of⟩,
      F__law_steps := ⟨f__law_steps, _, ⟨⟨_, _, _, _, _, _, _, _, _, _, rfl, l__law_steps, o__law_steps, .inl ⟨rfl, rfl⟩, .inl rfl⟩, k__law_steps⟩, PySem.W.mg_of X G a__law_steps⟩,
      F_law := ⟨fa, _, ⟨⟨_, _, _, _, _, _, _, _, _, _, rfl, l_law, o_law, .inl ⟨rfl, rfl⟩, .inl rfl⟩, k_law⟩, PySem.W.mg_of X G a_law⟩ }
  exact ⟨PySem.W.fnOf "law" "law" (defArgs s_law) (defBody s_law) (defScope s_law) .none kV_law dc_law pm_law an_law cd_law ct_law, fun s v => .of_eq rfl, fun base _ _ =>
    law_imp (ok_law (TT base) ⟨⟨_, _, _, _, _, _, _, _, _, _, rfl, l_law, o_law, .inl ⟨rfl, rfl⟩, .inl rfl⟩, k_law⟩) (hmain base ⟨c_ZeroDenominator, c_Refused, c_NoAnswer, c_Unfit, c_BadExact, c_HouseError⟩ (TT base))⟩
end Lk00

open PySem PySem.W PyProof.Rows in
set_option maxRecDepth 100000 in
set_option maxHeartbeats 0 in
theorem PySem.Challenge.cw_bidehall_k00_exact_numbers_holds : PySem.Challenge.rw_bidehall_k00_exact_numbers.Holds := by
  w_on; o_law; k_head; (case hw => w_witness2)
  k_fill
  refine FD.walk_law (l := PySem.Challenge.rw_bidehall_k00_exact_numbers) (k := 6) (x := "_law_script") rfl rfl ⟨rfl, by decide, by decide⟩ (fun w h Y => PySem.W.kIn_of Y) ?F
  case F =>
    intro w mg fa h KX G hmg
    refine' Lk00.all_mk KX G hmg ?z_ValueError ?z_abs ?z_bool ?z_int ?z_isinstance ?z_len ?z_range ?z_tuple ?z_gcd ?a_ZeroDenominator ?a_Refused ?a_NoAnswer ?a_Unfit ?a_BadExact ?a_HouseError ?xl_ZeroDenominator ?sa_ZeroDenominator ?ic_ZeroDenominator ?ti_ZeroDenominator ?kc_ZeroDenominator ?ex_ZeroDenominator ?ev_ZeroDenominator ?ty_ZeroDenominator ?su_ZeroDenominator ?si_ZeroDenominator ?lf_ZeroDenominator ?cd_ZeroDenominator ?ce_ZeroDenominator ?co_ZeroDenominator ?cs_ZeroDenominator ?cf_ZeroDenominator ?hg_ZeroDenominator ?hk_ZeroDenominator ?hd_ZeroDenominator ?ha_ZeroDenominator ?ho_ZeroDenominator ?sb_ZeroDenominator_ZeroDenominator ?sb_ZeroDenominator_HouseError ?sb_ZeroDenominator_BadExact ?ne_ZeroDenominator_BadExact ?sb_ZeroDenominator_Unfit ?ne_ZeroDenominator_Unfit ?sb_ZeroDenominator_NoAnswer ?ne_ZeroDenominator_NoAnswer ?sb_ZeroDenominator_Refused ?ne_ZeroDenominator_Refused ?sb_ZeroDenominator_ValueError ?ci_ZeroDenominator ?ct_ZeroDenominator ?cb_ZeroDenominator ?ci_HouseError ?ct_HouseError ?cb_HouseError ?ci_BadExact ?ct_BadExact ?cb_BadExact ?ci_Unfit ?ct_Unfit ?cb_Unfit ?ci_NoAnswer ?ct_NoAnswer ?cb_NoAnswer ?ci_Refused ?ct_Refused ?cb_Refused ?any ?zsup ?hn ?ht ?a__law_cell ?l__law_cell ?o__law_cell ?k__law_cell ?a__law_signed ?l__law_signed ?o__law_signed ?k__law_signed ?a__law_nonzero ?l__law_nonzero ?o__law_nonzero ?k__law_nonzero ?a__law_shared ?l__law_shared ?o__law_shared ?k__law_shared ?a__law_lowest ?l__law_lowest ?o__law_lowest ?k__law_lowest ?a__law_fractions ?l__law_fractions ?o__law_fractions ?k__law_fractions ?a_exact ?l_exact ?o_exact ?k_exact ?d_exact ?a__law_is_integer ?l__law_is_integer ?o__law_is_integer ?k__law_is_integer ?a__law_right ?l__law_right ?o__law_right ?k__law_right ?a__law_made ?l__law_made ?o__law_made ?k__law_made ?a__law_refused ?l__law_refused ?o__law_refused ?k__law_refused ?a__law_refused_by_base ?l__law_refused_by_base ?o__law_refused_by_base ?k__law_refused_by_base ?a_sum_of ?l_sum_of ?o_sum_of ?k_sum_of ?a_difference ?l_difference ?o_difference ?k_difference ?a_times ?l_times ?o_times ?k_times ?a__law_sums ?l__law_sums ?o__law_sums ?k__law_sums ?a_compared ?l_compared ?o_compared ?k_compared ?a_greatest_of ?l_greatest_of ?o_greatest_of ?k_greatest_of ?a_least_of ?l_least_of ?o_least_of ?k_least_of ?a__law_sign ?l__law_sign ?o__law_sign ?k__law_sign ?a__law_extreme ?l__law_extreme ?o__law_extreme ?k__law_extreme ?a__law_ordered ?l__law_ordered ?o__law_ordered ?k__law_ordered ?a_floor_of ?l_floor_of ?o_floor_of ?k_floor_of ?a_ceiling_of ?l_ceiling_of ?o_ceiling_of ?k_ceiling_of ?a__law_steps ?l__law_steps ?o__law_steps ?k__law_steps ?a_law ?l_law ?o_law ?k_law (fun base cs T ns hl hb => Lk00.plain T ns hl hb)
    (case z_ValueError => k_is)
    (case z_abs => k_is)
    (case z_bool => k_is)
    (case z_int => k_is)
    (case z_isinstance => k_is)
    (case z_len => k_is)
    (case z_range => k_is)
    (case z_tuple => k_is)
    (case z_gcd => k_is)
    (case a_ZeroDenominator => k_is)
    (case a_Refused => k_is)
    (case a_NoAnswer => k_is)
    (case a_Unfit => k_is)
    (case a_BadExact => k_is)
    (case a_HouseError => k_is)
    (case xl_ZeroDenominator => k_is)
    (case sa_ZeroDenominator => k_is)
    (case ic_ZeroDenominator => k_is)
    (case ti_ZeroDenominator => k_is)
    (case kc_ZeroDenominator => k_is)
    (case ex_ZeroDenominator => k_is)
    (case ev_ZeroDenominator => k_is)
    (case ty_ZeroDenominator => k_is)
    (case su_ZeroDenominator => k_is)
    (case si_ZeroDenominator => ks_is)
    (case lf_ZeroDenominator => k_is)
    (case cd_ZeroDenominator => k_is)
    (case ce_ZeroDenominator => k_is)
    (case co_ZeroDenominator => k_is)
    (case cs_ZeroDenominator => rfl)
    (case cf_ZeroDenominator => first | rfl | decide +kernel)
    (case hg_ZeroDenominator => k_is)
    (case hk_ZeroDenominator => k_is)
    (case hd_ZeroDenominator => k_is)
    (case ha_ZeroDenominator => k_is)
    (case ho_ZeroDenominator => k_is)
    (case sb_ZeroDenominator_ZeroDenominator => k_is)
    (case sb_ZeroDenominator_HouseError => k_is)
    (case sb_ZeroDenominator_BadExact => k_is)
    (case ne_ZeroDenominator_BadExact => first | rfl | decide +kernel)
    (case sb_ZeroDenominator_Unfit => k_is)
    (case ne_ZeroDenominator_Unfit => first | rfl | decide +kernel)
    (case sb_ZeroDenominator_NoAnswer => k_is)
    (case ne_ZeroDenominator_NoAnswer => first | rfl | decide +kernel)
    (case sb_ZeroDenominator_Refused => k_is)
    (case ne_ZeroDenominator_Refused => first | rfl | decide +kernel)
    (case sb_ZeroDenominator_ValueError => k_is)
    (case ci_ZeroDenominator => k_is)
    (case ct_ZeroDenominator => k_is)
    (case cb_ZeroDenominator => k_is)
    (case ci_HouseError => k_is)
    (case ct_HouseError => k_is)
    (case cb_HouseError => k_is)
    (case ci_BadExact => k_is)
    (case ct_BadExact => k_is)
    (case cb_BadExact => k_is)
    (case ci_Unfit => k_is)
    (case ct_Unfit => k_is)
    (case cb_Unfit => k_is)
    (case ci_NoAnswer => k_is)
    (case ct_NoAnswer => k_is)
    (case cb_NoAnswer => k_is)
    (case ci_Refused => k_is)
    (case ct_Refused => k_is)
    (case cb_Refused => k_is)
    (case any => k_is)
    (case zsup => k_is)
    (case hn => k_is)
    (case ht => k_is)
    (case a__law_cell => k_is)
    (case l__law_cell => k_is)
    (case o__law_cell => k_is)
    (case k__law_cell => k_is)
    (case a__law_signed => k_is)
    (case l__law_signed => k_is)
    (case o__law_signed => k_is)
    (case k__law_signed => k_is)
    (case a__law_nonzero => k_is)
    (case l__law_nonzero => k_is)
    (case o__law_nonzero => k_is)
    (case k__law_nonzero => k_is)
    (case a__law_shared => k_is)
    (case l__law_shared => k_is)
    (case o__law_shared => k_is)
    (case k__law_shared => k_is)
    (case a__law_lowest => k_is)
    (case l__law_lowest => k_is)
    (case o__law_lowest => k_is)
    (case k__law_lowest => k_is)
    (case a__law_fractions => k_is)
    (case l__law_fractions => k_is)
    (case o__law_fractions => k_is)
    (case k__law_fractions => k_is)
    (case a_exact => k_is)
    (case l_exact => k_is)
    (case o_exact => k_is)
    (case k_exact => k_is)
    (case d_exact => k_is)
    (case a__law_is_integer => k_is)
    (case l__law_is_integer => k_is)
    (case o__law_is_integer => k_is)
    (case k__law_is_integer => k_is)
    (case a__law_right => k_is)
    (case l__law_right => k_is)
    (case o__law_right => k_is)
    (case k__law_right => k_is)
    (case a__law_made => k_is)
    (case l__law_made => k_is)
    (case o__law_made => k_is)
    (case k__law_made => k_is)
    (case a__law_refused => k_is)
    (case l__law_refused => k_is)
    (case o__law_refused => k_is)
    (case k__law_refused => k_is)
    (case a__law_refused_by_base => k_is)
    (case l__law_refused_by_base => k_is)
    (case o__law_refused_by_base => k_is)
    (case k__law_refused_by_base => k_is)
    (case a_sum_of => k_is)
    (case l_sum_of => k_is)
    (case o_sum_of => k_is)
    (case k_sum_of => k_is)
    (case a_difference => k_is)
    (case l_difference => k_is)
    (case o_difference => k_is)
    (case k_difference => k_is)
    (case a_times => k_is)
    (case l_times => k_is)
    (case o_times => k_is)
    (case k_times => k_is)
    (case a__law_sums => k_is)
    (case l__law_sums => k_is)
    (case o__law_sums => k_is)
    (case k__law_sums => k_is)
    (case a_compared => k_is)
    (case l_compared => k_is)
    (case o_compared => k_is)
    (case k_compared => k_is)
    (case a_greatest_of => k_is)
    (case l_greatest_of => k_is)
    (case o_greatest_of => k_is)
    (case k_greatest_of => k_is)
    (case a_least_of => k_is)
    (case l_least_of => k_is)
    (case o_least_of => k_is)
    (case k_least_of => k_is)
    (case a__law_sign => k_is)
    (case l__law_sign => k_is)
    (case o__law_sign => k_is)
    (case k__law_sign => k_is)
    (case a__law_extreme => k_is)
    (case l__law_extreme => k_is)
    (case o__law_extreme => k_is)
    (case k__law_extreme => k_is)
    (case a__law_ordered => k_is)
    (case l__law_ordered => k_is)
    (case o__law_ordered => k_is)
    (case k__law_ordered => k_is)
    (case a_floor_of => k_is)
    (case l_floor_of => k_is)
    (case o_floor_of => k_is)
    (case k_floor_of => k_is)
    (case a_ceiling_of => k_is)
    (case l_ceiling_of => k_is)
    (case o_ceiling_of => k_is)
    (case k_ceiling_of => k_is)
    (case a__law_steps => k_is)
    (case l__law_steps => k_is)
    (case o__law_steps => k_is)
    (case k__law_steps => k_is)
    (case a_law => k_is)
    (case l_law => k_is)
    (case o_law => k_is)
    (case k_law => k_is)
#print axioms PySem.Challenge.cw_bidehall_k00_exact_numbers_holds

