import PyProof.Rows.All
import Wide.All
import OpenK.AllK
import Wide.FinOn
import HandS.ForMost
import HandS.ForExc
import HandS.Deep
import HandS.TupAny
import HandS.SetKeys
import HandS.CallSlots
import HandS.TryMany
import HandS.TryElse
import HandS.Zip
import HandS.Rev
import HandS.RevRange
import HandS.IsInst
import HandS.Wide
import HandS.Strs
import HandS.Conv
import HandS.More
import HandS.Defaults
import KE.KDictPairs
import PySem.Challenge.RW_recastle_k71_most_special
set_option Elab.async false
set_option linter.all false
set_option maxRecDepth 100000
set_option maxHeartbeats 4000000
namespace Dn
open PySem PySem.Spec PyProof.Rows L2

/-- a plain value: tuples are trees, what changes stands in the store -/
inductive PV where
  | non
  | bl (b : Bool)
  | int (i : Int)
  | str (x : Str)
  | tup (xs : List PV)
  | ref (n : Nat)
  | ty (n : String)
  | rol (xs : List PV)
  | pr (xs : List PV)
/-- a thing of the store -/
inductive MO where
  | lst (xs : List PV)
  | dic (kvs : List (Key × PV))
  | fdic (kvs : List (Key × PV))
abbrev Sto := List MO
abbrev En := List (Option PV)
/-- how a part ends: a value and the store, an exception of the class with this number (a field and its value), or what is not told -/
inductive Res (α : Type) where
  | ok (a : α) (S : Sto)
  | exc (c : Nat) (f : Option (Str × PV)) (S : Sto)
  | bad
inductive Out where
  | next (en : En) (S : Sto)
  | ret (v : PV) (S : Sto)
  | brk (en : En) (S : Sto)
  | cnt (en : En) (S : Sto)
  | exc (en : En) (c : Nat) (f : Option (Str × PV)) (S : Sto)
  | bad
def Res.bind {α β : Type} (r : Res α) (k : α → Sto → Res β) : Res β := match r with
  | .ok a S => k a S
  | .exc c f S => .exc c f S
  | .bad => .bad
def Res.out {α : Type} (r : Res α) (en : En) (k : α → Sto → Out) : Out := match r with
  | .ok a S => k a S
  | .exc c f S => .exc en c f S
  | .bad => .bad
abbrev DE := En → Sto → Res PV
abbrev DT := En → Sto → Res Bool
abbrev DA := En → Sto → Res (List PV)
abbrev DS := En → Sto → Out

/-- a list that nothing changes: locked, or written -/
def SqR (K : PySem.W.Frag) (H : Hp) (a : Addr) (xs : List V) : Prop := (∃ o, H a = some (.frz o (.lst xs))) ∨
    ∃ (o : Obj) (its : Array Value) (n : Nat), K.lookup a = some o ∧ o.cls = .type "list" ∧ o.dict = none ∧ o.data = .seq its n ∧ its.size ≤ sizeLine ∧ Vals xs its.toList
/-- a tuple of which all is known (it has no dict of its own) -/
def SqX (K : PySem.W.Frag) (H : Hp) (a : Addr) (xs : List V) : Prop := (∃ o, H a = some (.frz o (.tup xs)) ∧ o.dict = none) ∨
    ∃ (o : Obj) (its : Array Value) (n : Nat), K.lookup a = some o ∧ o.cls = .type "tuple" ∧ o.dict = none ∧ o.data = .seq its n ∧ its.size ≤ sizeLine ∧ Vals xs its.toList
theorem SqX.sq {K : PySem.W.Frag} {H : Hp} {a : Addr} {xs : List V} (h : SqX K H a xs) : SqT K H a xs := by
  rcases h with ⟨o, h, _⟩ | ⟨o, its, n, h1, h2, _, h3⟩
  · exact .inl (.inr ⟨o, h⟩)
  · exact .inr ⟨o, its, n, h1, h2, h3⟩
theorem SqR.sq {K : PySem.W.Frag} {H : Hp} {a : Addr} {xs : List V} (h : SqR K H a xs) : SqL K H a xs := by
  rcases h with ⟨o, h⟩ | h
  · exact .inl (.inr ⟨o, h⟩)
  · exact .inr h
section
variable (K : PySem.W.Frag) (H : Hp) (rh : List Addr)
mutual
def VR : PV → V → Prop
  | .non, v => v = .non
  | .bl b, v => v = .bl b
  | .int i, v => v = .int i
  | .str x, v => v = .str x
  | .tup xs, v => ∃ a vs, v = .ref a ∧ SqX K H a vs ∧ VRs xs vs
  | .pr xs, v => ∃ a vs, v = .ref a ∧ SqT K H a vs ∧ VRs xs vs
  | .ref n, v => ∃ a, v = .ref a ∧ rh[n]? = some a
  | .ty n, v => v = .ty n
  | .rol xs, v => ∃ a vs, v = .ref a ∧ SqR K H a vs ∧ VRs xs vs
def VRs : List PV → List V → Prop
  | [], vs => vs = []
  | x :: xs, vs => ∃ v r, vs = v :: r ∧ VR x v ∧ VRs xs r
end
/-- the pairs of a dict -/
def KRs : List (Key × PV) → List (Key × V) → Prop
  | [], ws => ws = []
  | p :: ps, ws => ∃ v r, ws = (p.1, v) :: r ∧ VR K H rh p.2 v ∧ KRs ps r
def MR (a : Addr) : MO → Prop
  | .lst xs => ∃ vs, H a = some (.lst vs) ∧ VRs K H rh xs vs
  | .dic kvs => ∃ ws, H a = some (.dK ws) ∧ KRs K H rh kvs ws
  | .fdic kvs => ∃ ws od, H a = some (.frz od (.dK ws)) ∧ KRs K H rh kvs ws
structure SR (S : Sto) : Prop where
  len : rh.length = S.length
  nd : rh.Nodup
  at_ : ∀ (i : Nat) (a : Addr) (m : MO), rh[i]? = some a → S[i]? = some m → MR K H rh a m
structure ER (en : En) (s : L2.St) : Prop where
  len : en.length = s.length
  at_ : ∀ (i : Nat) (x : PV), en[i]? = some (some x) → ∃ v, s[i]? = some (some v) ∧ VR K H rh x v
/-- an exception's field -/
def XR (f : Option (Str × PV)) (d : Option Addr) : Prop := match f with
  | none => True
  | some (n, x) => ∃ dx v, d = some dx ∧ H dx = some (.xd [(n, v)]) ∧ VR K H rh x v
end
/-- later: the store's addresses go on, tuples stay -/
structure Ext (K : PySem.W.Frag) (rh : List Addr) (H : Hp) (rh' : List Addr) (H' : Hp) : Prop where
  pre : rh <+: rh'
  tups : ∀ a xs, SqT K H a xs → SqT K H' a xs
  frzs : ∀ a o u, H a = some (.frz o u) → H' a = some (.frz o u)
theorem Ext.refl {K : PySem.W.Frag} {rh : List Addr} {H : Hp} : Ext K rh H rh H := ⟨List.prefix_refl _, fun _ _ h => h, fun _ _ _ h => h⟩
theorem Ext.trans {K : PySem.W.Frag} {r1 r2 r3 : List Addr} {H1 H2 H3 : Hp} (a : Ext K r1 H1 r2 H2) (b : Ext K r2 H2 r3 H3) : Ext K r1 H1 r3 H3 :=
  ⟨a.pre.trans b.pre, fun c xs h => b.tups c xs (a.tups c xs h), fun c o u h => b.frzs c o u (a.frzs c o u h)⟩
theorem Ext.get {K : PySem.W.Frag} {rh rh' : List Addr} {H H' : Hp} (e : Ext K rh H rh' H') {n : Nat} {a : Addr} (h : rh[n]? = some a) : rh'[n]? = some a := by
  obtain ⟨t, rfl⟩ := e.pre
  obtain ⟨hn, _⟩ := List.getElem?_eq_some_iff.mp h
  rw [List.getElem?_append_left hn]; exact h

section
variable {K : PySem.W.Frag} {H H' : Hp} {rh rh' : List Addr}
mutual
theorem VR.ext (e : Ext K rh H rh' H') : ∀ (x : PV) (v : V), VR K H rh x v → VR K H' rh' x v
  | .non, _, h => h
  | .bl _, _, h => h
  | .int _, _, h => h
  | .str _, _, h => h
  | .tup xs, v, h => by
    obtain ⟨a, vs, rfl, ht, hs⟩ := h
    refine ⟨a, vs, rfl, ?_, VRs.ext e xs vs hs⟩
    rcases ht with ⟨o, ht, hd⟩ | ht
    · exact .inl ⟨o, e.frzs a o _ ht, hd⟩
    · exact .inr ht
  | .pr xs, v, h => by
    obtain ⟨a, vs, rfl, ht, hs⟩ := h
    exact ⟨a, vs, rfl, e.tups a vs ht, VRs.ext e xs vs hs⟩
  | .ref n, v, h => by
    obtain ⟨a, rfl, ha⟩ := h
    exact ⟨a, rfl, e.get ha⟩
  | .ty _, _, h => h
  | .rol xs, v, h => by
    obtain ⟨a, vs, rfl, ht, hs⟩ := h
    refine ⟨a, vs, rfl, ?_, VRs.ext e xs vs hs⟩
    rcases ht with ⟨o, ht⟩ | ht
    · exact .inl ⟨o, e.frzs a o _ ht⟩
    · exact .inr ht
theorem VRs.ext (e : Ext K rh H rh' H') : ∀ (xs : List PV) (vs : List V), VRs K H rh xs vs → VRs K H' rh' xs vs
  | [], _, h => h
  | x :: xs, vs, h => by
    obtain ⟨v, r, rfl, h1, h2⟩ := h
    exact ⟨v, r, rfl, VR.ext e x v h1, VRs.ext e xs r h2⟩
end
theorem KRs.ext (e : Ext K rh H rh' H') : ∀ (ps : List (Key × PV)) (ws : List (Key × V)), KRs K H rh ps ws → KRs K H' rh' ps ws
  | [], _, h => h
  | p :: ps, ws, h => by
    obtain ⟨v, r, rfl, h1, h2⟩ := h
    exact ⟨v, r, rfl, VR.ext e _ v h1, KRs.ext e ps r h2⟩
theorem ER.ext {en : En} {s : L2.St} (e : Ext K rh H rh' H') (h : ER K H rh en s) : ER K H' rh' en s :=
  ⟨h.len, fun i x q => let ⟨v, h1, h2⟩ := h.at_ i x q; ⟨v, h1, VR.ext e x v h2⟩⟩
theorem VRs.length : ∀ {xs : List PV} {vs : List V}, VRs K H rh xs vs → xs.length = vs.length
  | [], _, h => by cases h; rfl
  | x :: xs, vs, h => by
    obtain ⟨v, r, rfl, _, h2⟩ := h
    rw [List.length_cons, List.length_cons, VRs.length h2]
theorem VRs.get : ∀ {xs : List PV} {vs : List V} {i : Nat} {x : PV}, VRs K H rh xs vs → xs[i]? = some x → ∃ v, vs[i]? = some v ∧ VR K H rh x v
  | [], _, _, _, _, e => by simp at e
  | y :: xs, vs, 0, x, h, e => by
    obtain ⟨v, r, rfl, h1, _⟩ := h
    have e' : y = x := by simpa using e
    subst e'
    exact ⟨v, rfl, h1⟩
  | y :: xs, vs, i + 1, x, h, e => by
    obtain ⟨v, r, rfl, _, h2⟩ := h
    obtain ⟨u, q1, q2⟩ := VRs.get (i := i) h2 (by simpa using e)
    exact ⟨u, by simpa using q1, q2⟩
theorem VRs.get' : ∀ {xs : List PV} {vs : List V} {i : Nat} {v : V}, VRs K H rh xs vs → vs[i]? = some v → ∃ x, xs[i]? = some x ∧ VR K H rh x v := fun {xs vs i v} h e => by
  have hl := h.length
  obtain ⟨hi, _⟩ := List.getElem?_eq_some_iff.mp e
  have hx : xs[i]? = some xs[i] := List.getElem?_eq_getElem (by omega)
  obtain ⟨u, q1, q2⟩ := h.get hx
  rw [e] at q1; cases q1
  exact ⟨_, hx, q2⟩
theorem VRs.append : ∀ {xs ys : List PV} {vs ws : List V}, VRs K H rh xs vs → VRs K H rh ys ws → VRs K H rh (xs ++ ys) (vs ++ ws)
  | [], _, _, _, h, h' => by cases h; exact h'
  | x :: xs, ys, vs, ws, h, h' => by
    obtain ⟨v, r, rfl, h1, h2⟩ := h
    exact ⟨v, r ++ ws, rfl, h1, VRs.append h2 h'⟩
theorem VRs.drop : ∀ {xs : List PV} {vs : List V} (n : Nat), VRs K H rh xs vs → VRs K H rh (xs.drop n) (vs.drop n)
  | _, _, 0, h => h
  | [], _, n + 1, h => by cases h; exact rfl
  | x :: xs, vs, n + 1, h => by
    obtain ⟨v, r, rfl, h1, h2⟩ := h
    exact VRs.drop n h2
theorem VRs.take : ∀ {xs : List PV} {vs : List V} (n : Nat), VRs K H rh xs vs → VRs K H rh (xs.take n) (vs.take n)
  | _, _, 0, h => by simp only [List.take_zero]; exact rfl
  | [], _, n + 1, h => by cases h; exact rfl
  | x :: xs, vs, n + 1, h => by
    obtain ⟨v, r, rfl, h1, h2⟩ := h
    exact ⟨v, r.take n, rfl, h1, VRs.take n h2⟩
theorem VRs.set {y : PV} {w : V} (hy : VR K H rh y w) : ∀ {xs : List PV} {vs : List V} (n : Nat), VRs K H rh xs vs → VRs K H rh (xs.set n y) (vs.set n w)
  | [], _, n, h => by cases h; exact rfl
  | x :: xs, vs, 0, h => by
    obtain ⟨v, r, rfl, h1, h2⟩ := h
    exact ⟨w, r, rfl, hy, h2⟩
  | x :: xs, vs, n + 1, h => by
    obtain ⟨v, r, rfl, h1, h2⟩ := h
    exact ⟨v, r.set n w, rfl, h1, VRs.set hy n h2⟩
theorem ER.set {en : En} {s : L2.St} {x : PV} {v : V} (h : ER K H rh en s) (i : Nat) (hx : VR K H rh x v) : ER K H rh (en.set i (some x)) (s.set i (some v)) := by
  refine ⟨by rw [List.length_set, List.length_set]; exact h.len, fun j y e => ?_⟩
  by_cases hj : i = j
  · subst hj
    rw [List.getElem?_set] at e
    split at e
    · split at e
      · rename_i hi
        have e' : x = y := by simpa using e
        subst e'
        exact ⟨v, by rw [List.getElem?_set]; simp [← h.len, hi], hx⟩
      · cases e
    · rename_i hn
      exact absurd rfl hn
  · rw [List.getElem?_set_ne hj] at e
    obtain ⟨u, q1, q2⟩ := h.at_ j y e
    exact ⟨u, by rw [List.getElem?_set_ne hj]; exact q1, q2⟩
theorem SqT.upd_new {a p : Addr} {o : HO} {xs : List V} (hp : H p = none) (h : SqT K H a xs) : SqT K (upd H p o) a xs := by
  rcases h with (h | ⟨ob, h⟩) | h
  · exact .inl (.inl (by rw [upd_ne (ne_of_none h hp)]; exact h))
  · exact .inl (.inr ⟨ob, by rw [upd_ne (ne_of_none h hp)]; exact h⟩)
  · exact .inr h
theorem SqL.upd_new {a p : Addr} {o : HO} {xs : List V} (hp : H p = none) (h : SqL K H a xs) : SqL K (upd H p o) a xs := by
  rcases h with (h | ⟨ob, h⟩) | h
  · exact .inl (.inl (by rw [upd_ne (ne_of_none h hp)]; exact h))
  · exact .inl (.inr ⟨ob, by rw [upd_ne (ne_of_none h hp)]; exact h⟩)
  · exact .inr h
/-- a written thing is no tuple and nothing locked -/
theorem SqT.upd_mut {a p : Addr} {o u : HO} {xs : List V} (hp : H p = some u) (hu : (∃ l, u = .lst l) ∨ (∃ d, u = .dK d)) (h : SqT K H a xs) : SqT K (upd H p o) a xs := by
  have ne : ∀ w, H a = some w → (¬ ∃ l, w = .lst l) → (¬ ∃ d, w = .dK d) → a ≠ p := fun w e n1 n2 z => by
    subst z; rw [hp] at e; cases e
    rcases hu with q | q
    · exact n1 q
    · exact n2 q
  rcases h with (h | ⟨ob, h⟩) | h
  · exact .inl (.inl (by rw [upd_ne (ne _ h (fun ⟨_, z⟩ => nomatch z) fun ⟨_, z⟩ => nomatch z)]; exact h))
  · exact .inl (.inr ⟨ob, by rw [upd_ne (ne _ h (fun ⟨_, z⟩ => nomatch z) fun ⟨_, z⟩ => nomatch z)]; exact h⟩)
  · exact .inr h
theorem MR.ne {a : Addr} {m : MO} (h : MR K H rh a m) : H a ≠ none := by
  cases m with
  | lst xs => obtain ⟨vs, e, _⟩ := h; rw [e]; exact fun z => nomatch z
  | dic kvs => obtain ⟨vs, e, _⟩ := h; rw [e]; exact fun z => nomatch z
  | fdic kvs => obtain ⟨vs, od, e, _⟩ := h; rw [e]; exact fun z => nomatch z
theorem Ext.new {p : Addr} {o : HO} (hp : H p = none) (t : List Addr) : Ext K rh H (rh ++ t) (upd H p o) := ⟨List.prefix_append _ _, fun _ _ h => SqT.upd_new hp h, fun _ _ _ h => by rw [upd_ne (ne_of_none h hp)]; exact h⟩
theorem Ext.tup {p : Addr} {o : HO} (hp : H p = none) : Ext K rh H rh (upd H p o) := ⟨List.prefix_refl _, fun _ _ h => SqT.upd_new hp h, fun _ _ _ h => by rw [upd_ne (ne_of_none h hp)]; exact h⟩
theorem MR.ext_new {a p : Addr} {o : HO} {m : MO} {t : List Addr} (hp : H p = none) (h : MR K H rh a m) : MR K (upd H p o) (rh ++ t) a m := by
  have e : Ext K rh H (rh ++ t) (upd H p o) := Ext.new hp t
  have ne : a ≠ p := fun z => by subst z; exact h.ne hp
  cases m with
  | lst xs => obtain ⟨vs, e1, e2⟩ := h; exact ⟨vs, by rw [upd_ne ne]; exact e1, VRs.ext e _ _ e2⟩
  | dic kvs => obtain ⟨vs, e1, e2⟩ := h; exact ⟨vs, by rw [upd_ne ne]; exact e1, KRs.ext e _ _ e2⟩
  | fdic kvs => obtain ⟨vs, od, e1, e2⟩ := h; exact ⟨vs, od, by rw [upd_ne ne]; exact e1, KRs.ext e _ _ e2⟩
/-- a tuple laid -/
theorem SR.tup {S : Sto} {p : Addr} {o : HO} (h : SR K H rh S) (hp : H p = none) : SR K (upd H p o) rh S :=
  ⟨h.len, h.nd, fun i a m e1 e2 => by have q := MR.ext_new (o := o) (t := []) hp (h.at_ i a m e1 e2); rw [List.append_nil] at q; exact q⟩
/-- a thing laid -/
theorem SR.new {S : Sto} {p : Addr} {o : HO} {m : MO} (h : SR K H rh S) (hp : H p = none) (hm : MR K (upd H p o) (rh ++ [p]) p m) : SR K (upd H p o) (rh ++ [p]) (S ++ [m]) := by
  refine ⟨by rw [List.length_append, List.length_append, h.len]; rfl, ?_, fun i a m' e1 e2 => ?_⟩
  · rw [List.nodup_append]
    refine ⟨h.nd, by simp, fun x hx y hy => ?_⟩
    have ey : y = p := by simpa using hy
    subst ey
    obtain ⟨i, hi, e⟩ := List.getElem_of_mem hx
    have e1 : rh[i]? = some x := by rw [List.getElem?_eq_getElem hi, e]
    have hi' : i < S.length := by rw [← h.len]; exact hi
    have e2 : S[i]? = some (S[i]'hi') := List.getElem?_eq_getElem hi'
    exact fun z => (h.at_ i x _ e1 e2).ne (by rw [z]; exact hp)
  · by_cases hi : i < rh.length
    · rw [List.getElem?_append_left hi] at e1
      rw [List.getElem?_append_left (by rw [← h.len]; exact hi)] at e2
      exact MR.ext_new hp (h.at_ i a m' e1 e2)
    · have ei : i = rh.length := by
        obtain ⟨hl, _⟩ := List.getElem?_eq_some_iff.mp e1
        rw [List.length_append, List.length_singleton] at hl
        omega
      subst ei
      rw [List.getElem?_append_right (Nat.le_refl _), Nat.sub_self] at e1
      rw [h.len, List.getElem?_append_right (Nat.le_refl _), Nat.sub_self] at e2
      have e1' : p = a := by simpa using e1
      have e2' : m = m' := by simpa using e2
      subst e1' e2'
      exact hm
/-- what stands at a place of the store -/
theorem SR.lst {S : Sto} {n : Nat} {xs : List PV} {v : V} (h : SR K H rh S) (hv : VR K H rh (.ref n) v) (e : S[n]? = some (.lst xs)) : ∃ a vs, v = .ref a ∧ rh[n]? = some a ∧ H a = some (.lst vs) ∧ VRs K H rh xs vs := by
  obtain ⟨a, rfl, ha⟩ := hv
  obtain ⟨vs, e1, e2⟩ := h.at_ n a _ ha e
  exact ⟨a, vs, rfl, ha, e1, e2⟩
theorem SR.dic {S : Sto} {n : Nat} {kvs : List (Key × PV)} {v : V} (h : SR K H rh S) (hv : VR K H rh (.ref n) v) (e : S[n]? = some (.dic kvs)) : ∃ a ws, v = .ref a ∧ rh[n]? = some a ∧ H a = some (.dK ws) ∧ KRs K H rh kvs ws := by
  obtain ⟨a, rfl, ha⟩ := hv
  obtain ⟨vs, e1, e2⟩ := h.at_ n a _ ha e
  exact ⟨a, vs, rfl, ha, e1, e2⟩
theorem SR.fdic {S : Sto} {n : Nat} {kvs : List (Key × PV)} {v : V} (h : SR K H rh S) (hv : VR K H rh (.ref n) v) (e : S[n]? = some (.fdic kvs)) : ∃ a ws od, v = .ref a ∧ rh[n]? = some a ∧ H a = some (.frz od (.dK ws)) ∧ KRs K H rh kvs ws := by
  obtain ⟨a, rfl, ha⟩ := hv
  obtain ⟨vs, od, e1, e2⟩ := h.at_ n a _ ha e
  exact ⟨a, vs, od, rfl, ha, e1, e2⟩
/-- a thing of the store is written -/
theorem Ext.write {a : Addr} {u o : HO} (ha : H a = some u) (hu : (∃ l, u = .lst l) ∨ (∃ d, u = .dK d)) : Ext K rh H rh (upd H a o) := ⟨List.prefix_refl _, fun _ _ h => SqT.upd_mut ha hu h, fun b ob w h => by
  have ne : b ≠ a := fun z => by
    subst z; rw [ha] at h
    rcases hu with ⟨_, rfl⟩ | ⟨_, rfl⟩ <;> cases h
  rw [upd_ne ne]; exact h⟩
theorem SR.write {S : Sto} {n : Nat} {a : Addr} {u o : HO} {m : MO} (h : SR K H rh S) (hn : rh[n]? = some a) (ha : H a = some u) (hu : (∃ l, u = .lst l) ∨ (∃ d, u = .dK d)) (hm : MR K (upd H a o) rh a m) : SR K (upd H a o) rh (S.set n m) := by
  have e : Ext K rh H rh (upd H a o) := Ext.write ha hu
  refine ⟨by rw [List.length_set]; exact h.len, h.nd, fun i b m' e1 e2 => ?_⟩
  by_cases hi : n = i
  · subst hi
    rw [hn] at e1; cases e1
    have hl : n < S.length := by
      obtain ⟨hl, _⟩ := List.getElem?_eq_some_iff.mp hn
      rw [← h.len]; exact hl
    rw [List.getElem?_set_self hl] at e2
    cases e2
    exact hm
  · rw [List.getElem?_set_ne hi] at e2
    have nb : b ≠ a := fun z => by
      subst z
      obtain ⟨h1, e1'⟩ := List.getElem?_eq_some_iff.mp e1
      obtain ⟨h2, e2'⟩ := List.getElem?_eq_some_iff.mp hn
      exact hi ((List.getElem_inj h.nd).mp (e2'.trans e1'.symm))
    have q := h.at_ i b m' e1 e2
    cases m' with
    | lst xs => obtain ⟨vs, e1, e2⟩ := q; exact ⟨vs, by rw [upd_ne nb]; exact e1, VRs.ext e _ _ e2⟩
    | dic kvs => obtain ⟨vs, e1, e2⟩ := q; exact ⟨vs, by rw [upd_ne nb]; exact e1, KRs.ext e _ _ e2⟩
    | fdic kvs => obtain ⟨vs, od, e1, e2⟩ := q; exact ⟨vs, od, by rw [upd_ne nb]; exact e1, KRs.ext e _ _ e2⟩
end

section
variable (K : PySem.W.Frag) (ca : Nat → Addr) (W : WX)
/-- the end of a part, wanted: Q of the value, W of an exception -/
def Post (s : L2.St) (rh : List Addr) (H : Hp) (r : Res PV) (Q : VK) : Prop := match r with
  | .ok x S => ∀ rh' H' v, Ext K rh H rh' H' → SR K H' rh' S → VR K H' rh' x v → Q v H'
  | .exc c f S => ∀ rh' H' d, Ext K rh H rh' H' → SR K H' rh' S → XR K H' rh' f d → W (.ref (ca c)) d s H'
  | .bad => False
def PostT (s : L2.St) (rh : List Addr) (H : Hp) (r : Res Bool) (Q : Bool → Hp → Prop) : Prop := match r with
  | .ok b S => ∀ rh' H', Ext K rh H rh' H' → SR K H' rh' S → Q b H'
  | .exc c f S => ∀ rh' H' d, Ext K rh H rh' H' → SR K H' rh' S → XR K H' rh' f d → W (.ref (ca c)) d s H'
  | .bad => False
def PostA (s : L2.St) (rh : List Addr) (H : Hp) (r : Res (List PV)) (Q : List V → Hp → Prop) : Prop := match r with
  | .ok xs S => ∀ rh' H' vs, Ext K rh H rh' H' → SR K H' rh' S → VRs K H' rh' xs vs → Q vs H'
  | .exc c f S => ∀ rh' H' d, Ext K rh H rh' H' → SR K H' rh' S → XR K H' rh' f d → W (.ref (ca c)) d s H'
  | .bad => False
def PostS (rh : List Addr) (H : Hp) (o : Out) (D : Ends) : Prop := match o with
  | .next en S => ∀ rh' H' s', Ext K rh H rh' H' → ER K H' rh' en s' → SR K H' rh' S → D.nx s' H'
  | .ret x S => ∀ rh' H' v, Ext K rh H rh' H' → SR K H' rh' S → VR K H' rh' x v → D.rt v H'
  | .brk en S => ∀ rh' H' s', Ext K rh H rh' H' → ER K H' rh' en s' → SR K H' rh' S → D.bk s' H'
  | .cnt en S => ∀ rh' H' s', Ext K rh H rh' H' → ER K H' rh' en s' → SR K H' rh' S → D.ct s' H'
  | .exc en c f S => ∀ rh' H' s' d, Ext K rh H rh' H' → ER K H' rh' en s' → SR K H' rh' S → XR K H' rh' f d → W (.ref (ca c)) d s' H'
  | .bad => False
/-- the readings -/
def LE (m : DE) : TE := fun s H Q => ∃ rh en S, ER K H rh en s ∧ SR K H rh S ∧ Post K ca W s rh H (m en S) Q
def LT (m : DT) : TT := fun s H Q => ∃ rh en S, ER K H rh en s ∧ SR K H rh S ∧ PostT K ca W s rh H (m en S) Q
def LA (m : DA) : TA := fun s H Q => ∃ rh en S, ER K H rh en s ∧ SR K H rh S ∧ PostA K ca W s rh H (m en S) Q
def LS (m : DS) : TS := fun D s H => ∃ rh en S, ER K H rh en s ∧ SR K H rh S ∧ PostS K ca W rh H (m en S) D
end
section
variable {K : PySem.W.Frag} {ca : Nat → Addr} {W : WX} {s : L2.St} {rh rh1 : List Addr} {H H1 : Hp}
theorem Post.later (e : Ext K rh H rh1 H1) {r : Res PV} {Q : VK} (h : Post K ca W s rh H r Q) : Post K ca W s rh1 H1 r Q := by
  cases r with
  | ok x S => exact fun rh' H' v e' a b => h rh' H' v (e.trans e') a b
  | exc c f S => exact fun rh' H' d e' a b => h rh' H' d (e.trans e') a b
  | bad => exact h
theorem PostT.later (e : Ext K rh H rh1 H1) {r : Res Bool} {Q : Bool → Hp → Prop} (h : PostT K ca W s rh H r Q) : PostT K ca W s rh1 H1 r Q := by
  cases r with
  | ok x S => exact fun rh' H' e' a => h rh' H' (e.trans e') a
  | exc c f S => exact fun rh' H' d e' a b => h rh' H' d (e.trans e') a b
  | bad => exact h
theorem PostA.later (e : Ext K rh H rh1 H1) {r : Res (List PV)} {Q : List V → Hp → Prop} (h : PostA K ca W s rh H r Q) : PostA K ca W s rh1 H1 r Q := by
  cases r with
  | ok x S => exact fun rh' H' v e' a b => h rh' H' v (e.trans e') a b
  | exc c f S => exact fun rh' H' d e' a b => h rh' H' d (e.trans e') a b
  | bad => exact h
theorem PostS.later (e : Ext K rh H rh1 H1) {o : Out} {D : Ends} (h : PostS K ca W rh H o D) : PostS K ca W rh1 H1 o D := by
  cases o with
  | next en S => exact fun rh' H' s' e' a b => h rh' H' s' (e.trans e') a b
  | ret x S => exact fun rh' H' v e' a b => h rh' H' v (e.trans e') a b
  | brk en S => exact fun rh' H' s' e' a b => h rh' H' s' (e.trans e') a b
  | cnt en S => exact fun rh' H' s' e' a b => h rh' H' s' (e.trans e') a b
  | exc en c f S => exact fun rh' H' s' d e' a b => h rh' H' s' d (e.trans e') a b
  | bad => exact h
theorem PostS.imp {o : Out} {D D' : Ends} (h : PostS K ca W rh H o D) (h1 : ∀ s' H', D.nx s' H' → D'.nx s' H') (h2 : ∀ v H', D.rt v H' → D'.rt v H') (h3 : ∀ s' H', D.bk s' H' → D'.bk s' H') (h4 : ∀ s' H', D.ct s' H' → D'.ct s' H') : PostS K ca W rh H o D' := by
  cases o with
  | next en S => exact fun rh' H' s' e' a b => h1 _ _ (h rh' H' s' e' a b)
  | ret x S => exact fun rh' H' v e' a b => h2 _ _ (h rh' H' v e' a b)
  | brk en S => exact fun rh' H' s' e' a b => h3 _ _ (h rh' H' s' e' a b)
  | cnt en S => exact fun rh' H' s' e' a b => h4 _ _ (h rh' H' s' e' a b)
  | exc en c f S => exact h
  | bad => exact h
theorem Post.mono {r : Res PV} {Q Q' : VK} (h : Post K ca W s rh H r Q) (i : ∀ v H', Q v H' → Q' v H') : Post K ca W s rh H r Q' := by
  cases r with
  | ok x S => exact fun rh' H' v e a b => i _ _ (h rh' H' v e a b)
  | exc c f S => exact h
  | bad => exact h
theorem PostT.mono {r : Res Bool} {Q Q' : Bool → Hp → Prop} (h : PostT K ca W s rh H r Q) (i : ∀ v H', Q v H' → Q' v H') : PostT K ca W s rh H r Q' := by
  cases r with
  | ok x S => exact fun rh' H' e a => i _ _ (h rh' H' e a)
  | exc c f S => exact h
  | bad => exact h
theorem PostA.mono {r : Res (List PV)} {Q Q' : List V → Hp → Prop} (h : PostA K ca W s rh H r Q) (i : ∀ v H', Q v H' → Q' v H') : PostA K ca W s rh H r Q' := by
  cases r with
  | ok x S => exact fun rh' H' v e a b => i _ _ (h rh' H' v e a b)
  | exc c f S => exact h
  | bad => exact h
theorem LE.mono {m : DE} {Q Q' : VK} (h : LE K ca W m s H Q) (i : ∀ v H', Q v H' → Q' v H') : LE K ca W m s H Q' :=
  let ⟨rh, en, S, a, b, c⟩ := h; ⟨rh, en, S, a, b, c.mono i⟩
theorem LT.mono {m : DT} {Q Q' : Bool → Hp → Prop} (h : LT K ca W m s H Q) (i : ∀ v H', Q v H' → Q' v H') : LT K ca W m s H Q' :=
  let ⟨rh, en, S, a, b, c⟩ := h; ⟨rh, en, S, a, b, c.mono i⟩
theorem LA.mono {m : DA} {Q Q' : List V → Hp → Prop} (h : LA K ca W m s H Q) (i : ∀ v H', Q v H' → Q' v H') : LA K ca W m s H Q' :=
  let ⟨rh, en, S, a, b, c⟩ := h; ⟨rh, en, S, a, b, c.mono i⟩
/-- an expression first, then what goes on with its value -/
theorem Post.bind {m : DE} {en : En} {S : Sto} {k : PV → Sto → Res PV} {Q : VK} (he : ER K H rh en s) (hs : SR K H rh S) (h : Post K ca W s rh H ((m en S).bind k) Q) :
    LE K ca W m s H fun v H1 => ∃ rh1 x S1, Ext K rh H rh1 H1 ∧ ER K H1 rh1 en s ∧ SR K H1 rh1 S1 ∧ VR K H1 rh1 x v ∧ Post K ca W s rh1 H1 (k x S1) Q := by
  refine ⟨rh, en, S, he, hs, ?_⟩
  cases q : m en S with
  | ok x S1 =>
    rw [q] at h
    exact fun rh1 H1 v e a b => ⟨rh1, x, S1, e, he.ext e, a, b, Post.later e h⟩
  | exc c f S1 => rw [q] at h; exact h
  | bad => rw [q] at h; exact h
theorem Post.bindA {m : DA} {en : En} {S : Sto} {k : List PV → Sto → Res PV} {Q : VK} (he : ER K H rh en s) (hs : SR K H rh S) (h : Post K ca W s rh H ((m en S).bind k) Q) :
    LA K ca W m s H fun vs H1 => ∃ rh1 xs S1, Ext K rh H rh1 H1 ∧ ER K H1 rh1 en s ∧ SR K H1 rh1 S1 ∧ VRs K H1 rh1 xs vs ∧ Post K ca W s rh1 H1 (k xs S1) Q := by
  refine ⟨rh, en, S, he, hs, ?_⟩
  cases q : m en S with
  | ok x S1 =>
    rw [q] at h
    exact fun rh1 H1 v e a b => ⟨rh1, x, S1, e, he.ext e, a, b, Post.later e h⟩
  | exc c f S1 => rw [q] at h; exact h
  | bad => rw [q] at h; exact h
theorem Post.bindT {m : DT} {en : En} {S : Sto} {k : Bool → Sto → Res PV} {Q : VK} (he : ER K H rh en s) (hs : SR K H rh S) (h : Post K ca W s rh H ((m en S).bind k) Q) :
    LT K ca W m s H fun b H1 => ∃ rh1 S1, Ext K rh H rh1 H1 ∧ ER K H1 rh1 en s ∧ SR K H1 rh1 S1 ∧ Post K ca W s rh1 H1 (k b S1) Q := by
  refine ⟨rh, en, S, he, hs, ?_⟩
  cases q : m en S with
  | ok x S1 =>
    rw [q] at h
    exact fun rh1 H1 e a => ⟨rh1, S1, e, he.ext e, a, Post.later e h⟩
  | exc c f S1 => rw [q] at h; exact h
  | bad => rw [q] at h; exact h
theorem PostT.bind {m : DE} {en : En} {S : Sto} {k : PV → Sto → Res Bool} {Q : Bool → Hp → Prop} (he : ER K H rh en s) (hs : SR K H rh S) (h : PostT K ca W s rh H ((m en S).bind k) Q) :
    LE K ca W m s H fun v H1 => ∃ rh1 x S1, Ext K rh H rh1 H1 ∧ ER K H1 rh1 en s ∧ SR K H1 rh1 S1 ∧ VR K H1 rh1 x v ∧ PostT K ca W s rh1 H1 (k x S1) Q := by
  refine ⟨rh, en, S, he, hs, ?_⟩
  cases q : m en S with
  | ok x S1 =>
    rw [q] at h
    exact fun rh1 H1 v e a b => ⟨rh1, x, S1, e, he.ext e, a, b, PostT.later e h⟩
  | exc c f S1 => rw [q] at h; exact h
  | bad => rw [q] at h; exact h
theorem PostT.bindT {m : DT} {en : En} {S : Sto} {k : Bool → Sto → Res Bool} {Q : Bool → Hp → Prop} (he : ER K H rh en s) (hs : SR K H rh S) (h : PostT K ca W s rh H ((m en S).bind k) Q) :
    LT K ca W m s H fun b H1 => ∃ rh1 S1, Ext K rh H rh1 H1 ∧ ER K H1 rh1 en s ∧ SR K H1 rh1 S1 ∧ PostT K ca W s rh1 H1 (k b S1) Q := by
  refine ⟨rh, en, S, he, hs, ?_⟩
  cases q : m en S with
  | ok x S1 =>
    rw [q] at h
    exact fun rh1 H1 e a => ⟨rh1, S1, e, he.ext e, a, PostT.later e h⟩
  | exc c f S1 => rw [q] at h; exact h
  | bad => rw [q] at h; exact h
theorem PostA.bind {m : DE} {en : En} {S : Sto} {k : PV → Sto → Res (List PV)} {Q : List V → Hp → Prop} (he : ER K H rh en s) (hs : SR K H rh S) (h : PostA K ca W s rh H ((m en S).bind k) Q) :
    LE K ca W m s H fun v H1 => ∃ rh1 x S1, Ext K rh H rh1 H1 ∧ ER K H1 rh1 en s ∧ SR K H1 rh1 S1 ∧ VR K H1 rh1 x v ∧ PostA K ca W s rh1 H1 (k x S1) Q := by
  refine ⟨rh, en, S, he, hs, ?_⟩
  cases q : m en S with
  | ok x S1 =>
    rw [q] at h
    exact fun rh1 H1 v e a b => ⟨rh1, x, S1, e, he.ext e, a, b, PostA.later e h⟩
  | exc c f S1 => rw [q] at h; exact h
  | bad => rw [q] at h; exact h
theorem PostA.bindA {m : DA} {en : En} {S : Sto} {k : List PV → Sto → Res (List PV)} {Q : List V → Hp → Prop} (he : ER K H rh en s) (hs : SR K H rh S) (h : PostA K ca W s rh H ((m en S).bind k) Q) :
    LA K ca W m s H fun vs H1 => ∃ rh1 xs S1, Ext K rh H rh1 H1 ∧ ER K H1 rh1 en s ∧ SR K H1 rh1 S1 ∧ VRs K H1 rh1 xs vs ∧ PostA K ca W s rh1 H1 (k xs S1) Q := by
  refine ⟨rh, en, S, he, hs, ?_⟩
  cases q : m en S with
  | ok x S1 =>
    rw [q] at h
    exact fun rh1 H1 v e a b => ⟨rh1, x, S1, e, he.ext e, a, b, PostA.later e h⟩
  | exc c f S1 => rw [q] at h; exact h
  | bad => rw [q] at h; exact h
theorem PostS.bind {m : DE} {en : En} {S : Sto} {k : PV → Sto → Out} {D : Ends} (he : ER K H rh en s) (hs : SR K H rh S) (h : PostS K ca W rh H ((m en S).out en k) D) :
    LE K ca W m s H fun v H1 => ∃ rh1 x S1, Ext K rh H rh1 H1 ∧ ER K H1 rh1 en s ∧ SR K H1 rh1 S1 ∧ VR K H1 rh1 x v ∧ PostS K ca W rh1 H1 (k x S1) D := by
  refine ⟨rh, en, S, he, hs, ?_⟩
  cases q : m en S with
  | ok x S1 =>
    rw [q] at h
    exact fun rh1 H1 v e a b => ⟨rh1, x, S1, e, he.ext e, a, b, PostS.later e h⟩
  | exc c f S1 => rw [q] at h; exact fun rh1 H1 d e a b => h rh1 H1 s d e (he.ext e) a b
  | bad => rw [q] at h; exact h
theorem PostS.bindT {m : DT} {en : En} {S : Sto} {k : Bool → Sto → Out} {D : Ends} (he : ER K H rh en s) (hs : SR K H rh S) (h : PostS K ca W rh H ((m en S).out en k) D) :
    LT K ca W m s H fun b H1 => ∃ rh1 S1, Ext K rh H rh1 H1 ∧ ER K H1 rh1 en s ∧ SR K H1 rh1 S1 ∧ PostS K ca W rh1 H1 (k b S1) D := by
  refine ⟨rh, en, S, he, hs, ?_⟩
  cases q : m en S with
  | ok x S1 =>
    rw [q] at h
    exact fun rh1 H1 e a => ⟨rh1, S1, e, he.ext e, a, PostS.later e h⟩
  | exc c f S1 => rw [q] at h; exact fun rh1 H1 d e a b => h rh1 H1 s d e (he.ext e) a b
  | bad => rw [q] at h; exact h
end
/-- a reading may be put for a stronger one -/
theorem pe_imp {X : Cx} {e : Expr} {t t' : TE} (h : PE X e t) (i : ∀ s H Q, t' s H Q → t s H Q) : PE X e t' := ⟨fun pins s σ H Q I q => h.run pins s σ H Q I (i σ H Q q)⟩
theorem pt_imp {X : Cx} {e : Expr} {t t' : TT} (h : PT X e t) (i : ∀ s H Q, t' s H Q → t s H Q) : PT X e t' := ⟨fun pins s σ H Q I q => h.run pins s σ H Q I (i σ H Q q)⟩
theorem pw_imp {X : Cx} {e : Expr} {t t' : TT} (h : PW X e t) (i : ∀ s H Q, t' s H Q → t s H Q) : PW X e t' := ⟨fun wh pins s σ H Q I q => h.run wh pins s σ H Q I (i σ H Q q)⟩
theorem pa_imp {X : Cx} {e : List Expr} {t t' : TA} (h : PA X e t) (i : ∀ s H Q, t' s H Q → t s H Q) : PA X e t' := ⟨fun pos pins s σ H Q I q => h.run pos pins s σ H Q I (i σ H Q q)⟩
theorem ps_imp {X : Cx} {e : Stmt} {t t' : TS} (h : PS X e t) (i : ∀ D s H, t' D s H → t D s H) : PS X e t' := ⟨fun pins s σ H D I q => h.run pins s σ H D I (i D σ H q)⟩
theorem pss_imp {X : Cx} {e : List Stmt} {t t' : TS} (h : PSs X e t) (i : ∀ D s H, t' D s H → t D s H) : PSs X e t' := ⟨fun pins s σ H D I q => h.run pins s σ H D I (i D σ H q)⟩
end Dn
namespace Dn
open PySem PySem.Spec PyProof.Rows L2

def optAll {α : Type} : List (Option α) → Option (List α)
  | [] => some []
  | none :: _ => none
  | some x :: r => (optAll r).map (x :: ·)
/-- a value as data, lists of the store within -/
def data (S : Sto) : Nat → PV → Option PyData
  | _, .non => some .none
  | _, .bl b => some (.bool b)
  | _, .int i => some (.int i)
  | _, .str x => some (.str x)
  | _, .ty _ => none
  | _, .rol _ => none
  | _, .pr _ => none
  | 0, .tup _ => none
  | n + 1, .tup xs => (optAll (xs.map (data S n))).map .tuple
  | 0, .ref _ => none
  | n + 1, .ref i => match S[i]? with
    | some (.lst xs) => (optAll (xs.map (data S n))).map .list
    | _ => none
def flatP : PV → Bool
  | .non => true
  | .bl _ => true
  | .int _ => true
  | .str _ => true
  | _ => false
def eqF : PV → PV → Bool
  | .non, .non => true
  | .bl a, .bl b => a == b
  | .bl a, .int b => (if a then 1 else 0) == b
  | .int a, .bl b => a == (if b then 1 else 0)
  | .int a, .int b => a == b
  | .str a, .str b => a == b
  | _, _ => false
def pvKey : PV → Option Key
  | .int i => some (.inl i)
  | .str x => some (.inr x)
  | _ => none
def keyPV : Key → PV
  | .inl i => .int i
  | .inr x => .str x
def dGet (kvs : List (Key × PV)) (k : Key) : Option PV := (kvs.find? fun p => decide (p.1 = k)).map (·.2)
def dPut (kvs : List (Key × PV)) (k : Key) (x : PV) : List (Key × PV) :=
  if (kvs.any fun p => decide (p.1 = k)) = true then kvs.map (fun p => if p.1 = k then (p.1, x) else p) else kvs ++ [(k, x)]
def fAdd (x y : PV) (S : Sto) : Res PV := match x, y with
  | .int i, .int j => .ok (.int (i + j)) S
  | .str a, .str b => if a.length + b.length ≤ sizeLine then .ok (.str (a ++ b)) S else .bad
  | .tup xs, .tup ys => if xs.length + ys.length ≤ sizeLine then .ok (.tup (xs ++ ys)) S else .bad
  | .ref n, .ref m => match S[n]?, S[m]? with
    | some (.lst xs), some (.lst ys) => if xs.length + ys.length ≤ sizeLine then .ok (.ref S.length) (S ++ [.lst (xs ++ ys)]) else .bad
    | _, _ => .bad
  | _, _ => .bad
def fSub (x y : PV) (S : Sto) : Res PV := match x, y with
  | .int i, .int j => .ok (.int (i - j)) S
  | _, _ => .bad
def fMul (x y : PV) (S : Sto) : Res PV := match x, y with
  | .int i, .int j => if i.natAbs.log2 + j.natAbs.log2 < 1000000 ∨ i.natAbs < 18446744073709551616 ∨ j.natAbs < 18446744073709551616 then .ok (.int (i * j)) S else .bad
  | _, _ => .bad
def fMod (x y : PV) (S : Sto) : Res PV := match x, y with
  | .int i, .int j => if 0 < j then .ok (.int (i % j)) S else .bad
  | _, _ => .bad
def fDiv (x y : PV) (S : Sto) : Res PV := match x, y with
  | .int i, .int j => if 0 < j ∧ j.natAbs.log2 < 9000 then .ok (.int (i / j)) S else .bad
  | _, _ => .bad
def fPow (x y : PV) (S : Sto) : Res PV := match x, y with
  | .int i, .int j => if 0 ≤ j ∧ j ≤ 1000000 ∧ i.natAbs < 2 ^ 64 then .ok (.int (i ^ j.toNat)) S else .bad
  | _, _ => .bad
def fNeg (x : PV) (S : Sto) : Res PV := match x with
  | .int i => .ok (.int (-i)) S
  | _ => .bad
def fEqD (x y : PV) (S : Sto) : Res Bool := match data S 64 x, data S 64 y with
  | some d, some e => if (SeqAt.shaped d && SeqAt.shaped e) = true then .ok (PyData.eqv d e) S else .bad
  | _, _ => .bad
def fEq (x y : PV) (S : Sto) : Res Bool := match x, y with
  | .str a, .str b => .ok (decide (a = b)) S
  | .int a, .int b => .ok (decide (a = b)) S
  | x, y => fEqD x y S
def rNot (r : Res Bool) : Res Bool := match r with
  | .ok b S => .ok (!b) S
  | .exc c f S => .exc c f S
  | .bad => .bad
def fNe (x y : PV) (S : Sto) : Res Bool := rNot (fEq x y S)
def fLt (x y : PV) (S : Sto) : Res Bool := match x, y with
  | .int i, .int j => .ok (decide (i < j)) S
  | _, _ => .bad
def fLe (x y : PV) (S : Sto) : Res Bool := match x, y with
  | .int i, .int j => .ok (decide (i ≤ j)) S
  | _, _ => .bad
def fGt (x y : PV) (S : Sto) : Res Bool := match x, y with
  | .int i, .int j => .ok (decide (j < i)) S
  | _, _ => .bad
def fGe (x y : PV) (S : Sto) : Res Bool := match x, y with
  | .int i, .int j => .ok (decide (j ≤ i)) S
  | _, _ => .bad
def inDat (x : PV) (ys : List PV) (S : Sto) : Res Bool := match data S 64 x, optAll (ys.map (data S 63)) with
  | some d, some ds => if (SeqAt.shaped d && SeqAt.shaped (.list ds)) = true then .ok (ds.any fun z => PyData.eqv z d) S else .bad
  | _, _ => .bad
def inFlat (x : PV) (ys : List PV) (S : Sto) : Res Bool := if (flatP x && ys.all flatP) = true then .ok (ys.any fun z => eqF z x) S else .bad
def fIn (x y : PV) (S : Sto) : Res Bool := match y with
  | .tup ys => inFlat x ys S
  | .rol ys => inFlat x ys S
  | .ref n => match S[n]? with
    | some (.lst ys) => if (flatP x && ys.all flatP) = true then .ok (ys.any fun z => eqF z x) S else inDat x ys S
    | some (.dic kvs) => match pvKey x with
      | some k => .ok (dGet kvs k).isSome S
      | none => .bad
    | some (.fdic kvs) => match pvKey x with
      | some k => .ok (dGet kvs k).isSome S
      | none => .bad
    | none => .bad
  | _ => .bad
def fNotIn (x y : PV) (S : Sto) : Res Bool := rNot (fIn x y S)
def isNon : PV → Bool
  | .non => true
  | _ => false
def fIsN (x y : PV) (S : Sto) : Res Bool := match y with
  | .non => .ok (isNon x) S
  | _ => .bad
def fNotN (x y : PV) (S : Sto) : Res Bool := match y with
  | .non => .ok (!isNon x) S
  | _ => .bad
def optRes (o : Option PV) (S : Sto) : Res PV := match o with
  | some x => .ok x S
  | none => .bad
/-- a[i] -/
def fIx (x y : PV) (S : Sto) : Res PV := match x, y with
  | .tup xs, .int i => optRes (atI xs i) S
  | .rol xs, .int i => optRes (atI xs i) S
  | .str z, .int i => if z.length ≤ sizeLine then optRes ((atI z.cps.toList i).map fun c => .str ⟨#[c]⟩) S else .bad
  | .ref n, y => match S[n]? with
    | some (.lst xs) => match y with
      | .int i => optRes (atI xs i) S
      | _ => .bad
    | some (.dic kvs) => match pvKey y with
      | some k => optRes (dGet kvs k) S
      | none => .bad
    | some (.fdic kvs) => match pvKey y with
      | some k => optRes (dGet kvs k) S
      | none => .bad
    | none => .bad
  | _, _ => .bad
/-- a[lo:hi] -/
def cutP (xs : List PV) (lo hi : Option Int) : List PV := (xs.drop (HT.sIx xs.length 0 lo)).take (HT.sIx xs.length xs.length hi - HT.sIx xs.length 0 lo)
def fCut (x : PV) (lo hi : Option Int) (S : Sto) : Res PV := match x with
  | .tup xs => .ok (.tup (cutP xs lo hi)) S
  | .rol xs => .ok (.ref S.length) (S ++ [.lst (cutP xs lo hi)])
  | .ref n => match S[n]? with
    | some (.lst xs) => .ok (.ref S.length) (S ++ [.lst (cutP xs lo hi)])
    | _ => .bad
  | _ => .bad

def eVar (i : Nat) : DE := fun en S => match en[i]? with
  | some (some x) => .ok x S
  | _ => .bad
def eC (x : PV) : DE := fun _ S => .ok x S
def eBin (f : PV → PV → Sto → Res PV) (a b : DE) : DE := fun en S => (a en S).bind fun x S1 => (b en S1).bind fun y S2 => f x y S2
def eUn (f : PV → Sto → Res PV) (a : DE) : DE := fun en S => (a en S).bind fun x S1 => f x S1
def tCmp (f : PV → PV → Sto → Res Bool) (a b : DE) : DT := fun en S => (a en S).bind fun x S1 => (b en S1).bind fun y S2 => f x y S2
def eTst (t : DT) : DE := fun en S => (t en S).bind fun b S1 => .ok (.bl b) S1
def tVal (a : DE) : DT := fun en S => (a en S).bind fun x S1 => match x with
  | .bl b => .ok b S1
  | _ => .bad
def tAnd (a b : DT) : DT := fun en S => (a en S).bind fun c S1 => if c = true then b en S1 else .ok false S1
def tOr (a b : DT) : DT := fun en S => (a en S).bind fun c S1 => if c = true then .ok true S1 else b en S1
def tNot (a : DT) : DT := fun en S => (a en S).bind fun c S1 => .ok (!c) S1
def eIf (t : DT) (a b : DE) : DE := fun en S => (t en S).bind fun c S1 => if c = true then a en S1 else b en S1
def aNil : DA := fun _ S => .ok [] S
def aCons (a : DE) (r : DA) : DA := fun en S => (a en S).bind fun x S1 => (r en S1).bind fun xs S2 => .ok (x :: xs) S2
def eTup (a : DA) : DE := fun en S => (a en S).bind fun xs S1 => if xs.length ≤ sizeLine then .ok (.tup xs) S1 else .bad
def eLst (a : DA) : DE := fun en S => (a en S).bind fun xs S1 => if xs.length ≤ sizeLine then .ok (.ref S1.length) (S1 ++ [.lst xs]) else .bad
abbrev DO := En → Sto → Res (Option Int)
def oNone : DO := fun _ S => .ok none S
def oSome (a : DE) : DO := fun en S => (a en S).bind fun x S1 => match x with
  | .int i => .ok (some i) S1
  | _ => .bad
def eCut (a : DE) (lo hi : DO) : DE := fun en S => (a en S).bind fun x S1 => (lo en S1).bind fun l S2 => (hi en S2).bind fun u S3 => fCut x l u S3
def eFn (f : List PV → Sto → Res PV) (a : DA) : DE := fun en S => (a en S).bind fun xs S1 => f xs S1

section
variable {K : PySem.W.Frag} {ca : Nat → Addr} {W : WX} {s : L2.St} {rh : List Addr} {H : Hp} {S : Sto} {Q : VK}
theorem Post.same {x : PV} {v : V} (h : Post K ca W s rh H (.ok x S) Q) (hs : SR K H rh S) (hx : VR K H rh x v) : Q v H := h rh H v Ext.refl hs hx
theorem PostT.same {b : Bool} {Q : Bool → Hp → Prop} (h : PostT K ca W s rh H (.ok b S) Q) (hs : SR K H rh S) : Q b H := h rh H Ext.refl hs
theorem Post.newT {xs : List PV} {vs : List V} {p : Addr} {o : Obj} (h : Post K ca W s rh H (.ok (.tup xs) S) Q) (hs : SR K H rh S) (hp : H p = none) (ho : o.dict = none) (hx : VRs K H rh xs vs) : Q (.ref p) (upd H p (.frz o (.tup vs))) :=
  h rh _ _ (Ext.tup hp) (hs.tup hp) ⟨p, vs, rfl, .inl ⟨o, upd_same, ho⟩, VRs.ext (Ext.tup hp) _ _ hx⟩
theorem at_end {α : Type} {l : List α} {n : Nat} {x : α} (h : n = l.length) : (l ++ [x])[n]? = some x := by subst h; simp
theorem Post.new {m : MO} {p : Addr} {o : HO} (h : Post K ca W s rh H (.ok (.ref S.length) (S ++ [m])) Q) (hs : SR K H rh S) (hp : H p = none) (hm : MR K (upd H p o) (rh ++ [p]) p m) : Q (.ref p) (upd H p o) :=
  h (rh ++ [p]) _ _ (Ext.new hp [p]) (hs.new hp hm) ⟨p, rfl, at_end hs.len.symm⟩
theorem Post.newL {xs : List PV} {vs : List V} {p : Addr} (h : Post K ca W s rh H (.ok (.ref S.length) (S ++ [.lst xs])) Q) (hs : SR K H rh S) (hp : H p = none) (hx : VRs K H rh xs vs) : Q (.ref p) (upd H p (.lst vs)) :=
  h.new hs hp ⟨vs, upd_same, VRs.ext (Ext.new hp [p]) _ _ hx⟩
end

section
variable {K : PySem.W.Frag} {rh : List Addr} {H : Hp} {S : Sto}
theorem dp_all {n : Nat} (ih : ∀ (x : PV) (v : V) (d : PyData), VR K H rh x v → data S n x = some d → Dp K H v d) : ∀ (xs : List PV) (vs : List V) (ds : List PyData), VRs K H rh xs vs → optAll (xs.map (data S n)) = some ds → DpAll K H vs ds
  | [], vs, ds, h, e => by
    cases h
    have e' : ([] : List PyData) = ds := by simpa [optAll] using e
    subst e'
    exact .nil
  | x :: xs, vs, ds, h, e => by
    obtain ⟨v, r, rfl, h1, h2⟩ := h
    rw [List.map_cons] at e
    cases q : data S n x with
    | none => rw [q] at e; simp [optAll] at e
    | some d =>
      rw [q] at e
      simp only [optAll] at e
      cases q2 : optAll (xs.map (data S n)) with
      | none => rw [q2] at e; simp at e
      | some dr =>
        rw [q2] at e
        have e' : d :: dr = ds := by simpa using e
        subst e'
        exact .cons (ih x v d h1 q) (dp_all ih xs r dr h2 q2)
theorem dp_of (hs : SR K H rh S) : ∀ (n : Nat) (x : PV) (v : V) (d : PyData), VR K H rh x v → data S n x = some d → Dp K H v d := by
  intro n
  induction n with
  | zero =>
    intro x v d h e
    cases x with
    | non => cases h; have e' : PyData.none = d := by simpa [data] using e
             subst e'; exact .non
    | bl b => cases h; have e' : PyData.bool b = d := by simpa [data] using e
              subst e'; exact .bl b
    | int i => cases h; have e' : PyData.int i = d := by simpa [data] using e
               subst e'; exact .int i
    | str y => cases h; have e' : PyData.str y = d := by simpa [data] using e
               subst e'; exact .str y
    | tup xs => simp [data] at e
    | ty n => simp [data] at e
    | rol xs => simp [data] at e
    | pr xs => simp [data] at e
    | ref i => simp [data] at e
  | succ n ih =>
    intro x v d h e
    cases x with
    | non => cases h; have e' : PyData.none = d := by simpa [data] using e
             subst e'; exact .non
    | bl b => cases h; have e' : PyData.bool b = d := by simpa [data] using e
              subst e'; exact .bl b
    | int i => cases h; have e' : PyData.int i = d := by simpa [data] using e
               subst e'; exact .int i
    | str y => cases h; have e' : PyData.str y = d := by simpa [data] using e
               subst e'; exact .str y
    | tup xs =>
      obtain ⟨a, vs, rfl, ht, hx⟩ := h
      simp only [data] at e
      cases q : optAll (xs.map (data S n)) with
      | none => rw [q] at e; simp at e
      | some ds =>
        rw [q] at e
        have e' : PyData.tuple ds = d := by simpa using e
        subst e'
        exact .tup ht.sq (dp_all ih xs vs ds hx q)
    | ty n => simp [data] at e
    | rol xs => simp [data] at e
    | pr xs => simp [data] at e
    | ref i =>
      simp only [data] at e
      cases qs : S[i]? with
      | none => rw [qs] at e; simp at e
      | some m =>
        rw [qs] at e
        cases m with
        | lst xs =>
          obtain ⟨a, vs, rfl, _, ha, hx⟩ := hs.lst h qs
          simp only at e
          cases q : optAll (xs.map (data S n)) with
          | none => rw [q] at e; simp at e
          | some ds =>
            rw [q] at e
            have e' : PyData.list ds = d := by simpa using e
            subst e'
            exact .lst (SqL.of ha) (dp_all ih xs vs ds hx q)
        | dic kvs => simp at e
        | fdic kvs => simp at e
theorem flat_of {x : PV} {v : V} (h : VR K H rh x v) (f : flatP x = true) : flatV v = true := by
  cases x with
  | tup xs => cases f
  | ref n => cases f
  | ty n => cases f
  | rol xs => cases f
  | pr xs => cases f
  | _ => cases h; rfl
theorem flats_of : ∀ {xs : List PV} {vs : List V}, VRs K H rh xs vs → xs.all flatP = true → vs.all flatV = true
  | [], _, h, _ => by cases h; rfl
  | x :: xs, vs, h, f => by
    obtain ⟨v, r, rfl, h1, h2⟩ := h
    rw [List.all_cons, Bool.and_eq_true] at f ⊢
    exact ⟨flat_of h1 f.1, flats_of h2 f.2⟩
theorem eqF_of {x y : PV} {v w : V} (hx : VR K H rh x v) (hy : VR K H rh y w) (fx : flatP x = true) (fy : flatP y = true) : eqV v w = eqF x y := by
  cases x with
  | tup xs => cases fx
  | ref n => cases fx
  | ty n => cases fx
  | rol xs => cases fx
  | pr xs => cases fx
  | non => cases hx; cases y with
    | tup xs => cases fy
    | ref n => cases fy
    | ty n => cases fy
    | rol xs => cases fy
    | pr xs => cases fy
    | _ => cases hy; rfl
  | bl b => cases hx; cases y with
    | tup xs => cases fy
    | ref n => cases fy
    | ty n => cases fy
    | rol xs => cases fy
    | pr xs => cases fy
    | _ => cases hy; rfl
  | int i => cases hx; cases y with
    | tup xs => cases fy
    | ref n => cases fy
    | ty n => cases fy
    | rol xs => cases fy
    | pr xs => cases fy
    | _ => cases hy; rfl
  | str z => cases hx; cases y with
    | tup xs => cases fy
    | ref n => cases fy
    | ty n => cases fy
    | rol xs => cases fy
    | pr xs => cases fy
    | _ => cases hy; rfl
theorem inV_of {x : PV} {v : V} (hx : VR K H rh x v) (fx : flatP x = true) : ∀ {ys : List PV} {ws : List V}, VRs K H rh ys ws → ys.all flatP = true → inV v ws = ys.any fun z => eqF z x
  | [], _, h, _ => by cases h; rfl
  | y :: ys, ws, h, f => by
    obtain ⟨w, r, rfl, h1, h2⟩ := h
    rw [List.all_cons, Bool.and_eq_true] at f
    have ih := inV_of hx fx h2 f.2
    unfold inV at ih ⊢
    rw [List.any_cons, List.any_cons, ih, eqF_of h1 hx f.1 fx]
theorem key_of {x : PV} {v : V} {k : Key} (h : VR K H rh x v) (e : pvKey x = some k) : v = kV k := by
  cases x with
  | int i => cases h; have e' : (Sum.inl i : Key) = k := by simpa [pvKey] using e
             subst e'; rfl
  | str i => cases h; have e' : (Sum.inr i : Key) = k := by simpa [pvKey] using e
             subst e'; rfl
  | _ => simp [pvKey] at e
theorem dGet_of (k : Key) : ∀ {kvs : List (Key × PV)} {ws : List (Key × V)}, KRs K H rh kvs ws → (dGet kvs k = none ∧ valV ws k = none) ∨ ∃ x v, dGet kvs k = some x ∧ valV ws k = some v ∧ VR K H rh x v
  | [], _, h => by cases h; exact .inl ⟨rfl, rfl⟩
  | p :: ps, ws, h => by
    obtain ⟨v, r, rfl, h1, h2⟩ := h
    by_cases e : p.1 = k
    · refine .inr ⟨p.2, v, ?_, ?_, h1⟩
      · simp [dGet, List.find?_cons, e]
      · exact valV_pos e
    · have a : dGet (p :: ps) k = dGet ps k := by simp [dGet, List.find?_cons, e]
      have b : valV ((p.1, v) :: r) k = valV r k := valV_neg e
      rw [a, b]
      exact dGet_of k h2
theorem KRs.length : ∀ {kvs : List (Key × PV)} {ws : List (Key × V)}, KRs K H rh kvs ws → kvs.length = ws.length
  | [], _, h => by cases h; rfl
  | p :: ps, ws, h => by
    obtain ⟨v, r, rfl, _, h2⟩ := h
    rw [List.length_cons, List.length_cons, KRs.length h2]
theorem KRs.any (k : Key) : ∀ {kvs : List (Key × PV)} {ws : List (Key × V)}, KRs K H rh kvs ws → (ws.any fun p => decide (p.1 = k)) = kvs.any fun p => decide (p.1 = k)
  | [], _, h => by cases h; rfl
  | p :: ps, ws, h => by
    obtain ⟨v, r, rfl, _, h2⟩ := h
    rw [List.any_cons, List.any_cons, KRs.any k h2]
theorem KRs.repl {x : PV} {v : V} (k : Key) (hx : VR K H rh x v) : ∀ {kvs : List (Key × PV)} {ws : List (Key × V)}, KRs K H rh kvs ws → KRs K H rh (kvs.map fun p => if p.1 = k then (p.1, x) else p) (ws.map fun p => if p.1 = k then (p.1, v) else p)
  | [], _, h => by cases h; exact rfl
  | p :: ps, ws, h => by
    obtain ⟨w, r, rfl, h1, h2⟩ := h
    have ih := KRs.repl k hx h2
    by_cases e : p.1 = k
    · exact ⟨v, _, by simp [e], by simp [e]; exact hx, ih⟩
    · exact ⟨w, _, by simp [e], by simp [e]; exact h1, ih⟩
theorem KRs.snoc {x : PV} {v : V} (k : Key) (hx : VR K H rh x v) : ∀ {kvs : List (Key × PV)} {ws : List (Key × V)}, KRs K H rh kvs ws → KRs K H rh (kvs ++ [(k, x)]) (ws ++ [(k, v)])
  | [], _, h => by cases h; exact ⟨v, [], rfl, hx, rfl⟩
  | p :: ps, ws, h => by
    obtain ⟨w, r, rfl, h1, h2⟩ := h
    exact ⟨w, _, rfl, h1, KRs.snoc k hx h2⟩
theorem KRs.put {x : PV} {v : V} (k : Key) (hx : VR K H rh x v) {kvs : List (Key × PV)} {ws : List (Key × V)} (h : KRs K H rh kvs ws) : KRs K H rh (dPut kvs k x) (putK ws k v) := by
  unfold dPut putK
  rw [h.any k]
  by_cases c : (kvs.any fun p => decide (p.1 = k)) = true
  · rw [if_pos c, if_pos c]; exact h.repl k hx
  · rw [if_neg c, if_neg c]; exact h.snoc k hx
end

def rCatX (K : PySem.W.Frag) : R2 := fun x y H Q => ∃ a b xs ys, x = .ref a ∧ y = .ref b ∧ SqT K H a xs ∧ SqT K H b ys ∧ xs.length + ys.length ≤ sizeLine ∧
  (xs = [] → Q (.ref b) H) ∧ (xs ≠ [] → ys = [] → Q (.ref a) H) ∧ (xs ≠ [] → ys ≠ [] → ∀ p o, H p = none → o.dict = none → Q (.ref p) (upd H p (.frz o (.tup (xs ++ ys)))))
def tTupX (t : TA) : TE := fun s H Q => t s H fun xs H1 => xs.length ≤ sizeLine ∧ ∀ (p : Addr) (o : Obj), H1 p = none → o.dict = none → Q (.ref p) (upd H1 p (.frz o (.tup xs)))
def rSlX (K : PySem.W.Frag) : V → Option Int → Option Int → Hp → VK → Prop := fun x lo hi H Q => ∃ a xs, x = .ref a ∧ SqT K H a xs ∧
  (HT.sIx xs.length 0 lo = 0 ∧ HT.sIx xs.length xs.length hi = xs.length → Q (.ref a) H) ∧ (¬ (HT.sIx xs.length 0 lo = 0 ∧ HT.sIx xs.length xs.length hi = xs.length) → ∀ (p : Addr) (o : Obj), H p = none → o.dict = none → Q (.ref p) (upd H p (.frz o (.tup (cutV xs lo hi)))))
section
variable {X : Cx} {pos : Pos} {es : List Expr} {t : TA}
/-- a known tuple laid at the heap's end -/
theorem tupX_laid {pins : List (Addr × Obj)} {sg : L2.St} {H : Hp} {s : Shared} {its : List Value} {xs : List V} {Q : VK} (I : Inv X pins sg H s) (hz : xs.length ≤ sizeLine) (r : Vals xs its)
    (q : ∀ (p : Addr) (o : Obj), H p = none → o.dict = none → Q (.ref p) (upd H p (.frz o (.tup xs)))) :
    EP X pins sg Q (.ref s.heap.objs.size) { s with heap := s.heap.push { cls := .type "tuple", data := .seq its.toArray } } := by
  refine ⟨.ref s.heap.objs.size, _, I.laid (t' := s.toks) (o := .frz { cls := .type "tuple", data := .seq its.toArray } (.tup xs)) (fun b ob e => Heap.get?_push_of_some _ e) (Nat.le_refl _) ?_, rfl, q _ _ (I.hok.fresh (Nat.le_refl _)) rfl⟩
  exact ⟨Heap.get?_push_size _ rfl, hz, its, r, IsTup.new _ _⟩
theorem pe_tupX {k} (h : PA X es t) : PE X (.Tuple es k pos) (tTupX t) := by
  refine ⟨fun pins s sg H Q I hq => ?_⟩
  refine wpAny_Tuple_spliced (thn (h.run pos pins s sg H _ I hq) fun us s1 ⟨xs, H1, I1, r, z, q⟩ => ⟨by rw [← r.length]; exact z, ?_⟩)
  exact tupX_laid I1 z r q
theorem op_catX : OpR X (binaryOp .Add) (rCatX X.K) := by
  intro pins s sg H x y v u Q I rx ry h
  obtain ⟨a, b, xs, ys, rfl, rfl, ha, hb, hz, q0, q1, q2⟩ := h
  cases rx
  cases ry
  obtain ⟨its, r1, p1, _⟩ := I.tuple ha
  obtain ⟨its2, r2, p2, _⟩ := I.tuple hb
  by_cases hx : xs = []
  · subst hx
    cases r1
    exact cat_tup0 p1 p2 ⟨.ref b, H, I, rfl, q0 rfl⟩
  · refine HT.cat_tup p1 p2 (fun z => hx (r1.nil_iff.mp z)) (fun z => ⟨.ref a, H, I, rfl, q1 hx (r2.nil_iff.mp z)⟩) (fun z => ?_) (by rw [← r1.length, ← r2.length]; exact hz)
    exact tupX_laid I (by rw [List.length_append]; exact hz) (r1.append r2) (q2 hx fun w => z (r2.nil_iff.mpr w))
theorem sl_tupX : SlR X (rSlX X.K) := by
  intro pins s sg H x v vl vu lo hi sl Q I rx hs pl pu h
  obtain ⟨a, xs, rfl, hx, q1, q2⟩ := h
  cases rx
  obtain ⟨its, r, ht, hz⟩ := I.tuple hx
  have hlen : its.toArray.size = xs.length := by rw [List.size_toArray]; exact r.length.symm
  refine ⟨"tuple", _, PyProof.Rows.slot_tuple_getitem.lookup, ht.typeIs, ?_⟩
  by_cases hw : HT.sIx xs.length 0 lo = 0 ∧ HT.sIx xs.length xs.length hi = xs.length
  · exact getItem_tuple_whole ht hs pl pu (by rw [hlen]; exact hw) ⟨.ref a, H, I, rfl, q1 hw⟩
  · refine HT.getItem_tuple_cut ht hs pl pu (by rw [hlen]; exact hw) ?_ (by rw [hlen]; exact hz)
    rw [hlen]
    exact tupX_laid I (Nat.le_trans (cutV_length xs lo hi) hz) ((r.drop (HT.sIx xs.length 0 lo)).take (HT.sIx xs.length xs.length hi - HT.sIx xs.length 0 lo)) (q2 hw)
end
def OpD (K : PySem.W.Frag) (ca : Nat → Addr) (f : PV → PV → Sto → Res PV) (r : R2) : Prop :=
  ∀ (W : WX) (s : L2.St) (rh : List Addr) (H : Hp) (S : Sto) (x y : PV) (v w : V) (Q : VK), SR K H rh S → VR K H rh x v → VR K H rh y w → Post K ca W s rh H (f x y S) Q → r v w H Q
def OpB (K : PySem.W.Frag) (ca : Nat → Addr) (f : PV → PV → Sto → Res Bool) (r : R2) : Prop :=
  ∀ (W : WX) (s : L2.St) (rh : List Addr) (H : Hp) (S : Sto) (x y : PV) (v w : V) (Q : VK), SR K H rh S → VR K H rh x v → VR K H rh y w → PostT K ca W s rh H (f x y S) (fun b H' => Q (.bl b) H') → r v w H Q
section
variable {K : PySem.W.Frag} {ca : Nat → Addr}
theorem od_add : OpD K ca fAdd (fun x y H Q => rI0 (fun i j => .int (i + j)) x y H Q ∨ ((fun x y H Q => ∃ i j, x = .str i ∧ y = .str j ∧ i.length + j.length ≤ sizeLine ∧ Q (.str (i ++ j)) H) x y H Q ∨ (rCatX K x y H Q ∨ rCat x y H Q))) := by
  intro W s rh H S x y v w Q hs hx hy h
  unfold fAdd at h
  split at h
  · cases hx; cases hy
    exact .inl ⟨_, _, rfl, rfl, h.same hs rfl⟩
  · cases hx; cases hy
    split at h
    · rename_i hl
      exact .inr (.inl ⟨_, _, rfl, rfl, hl, h.same hs rfl⟩)
    · exact h.elim
  · obtain ⟨a, vs, rfl, ha, hvs⟩ := hx
    obtain ⟨b, ws, rfl, hb, hws⟩ := hy
    split at h
    · rename_i hl
      refine .inr (.inr (.inl ⟨a, b, vs, ws, rfl, rfl, ha.sq, hb.sq, by rw [← hvs.length, ← hws.length]; exact hl, fun e => ?_, fun e1 e2 => ?_, fun e1 e2 p o hp ho => ?_⟩))
      · subst e
        refine h.same hs ⟨b, ws, rfl, hb, ?_⟩
        have e := hvs.length
        have e' := List.eq_nil_of_length_eq_zero (show List.length _ = 0 from e)
        rw [e', List.nil_append]
        exact hws
      · subst e2
        refine h.same hs ⟨a, vs, rfl, ha, ?_⟩
        have e' := List.eq_nil_of_length_eq_zero (show List.length _ = 0 from hws.length)
        rw [e', List.append_nil]
        exact hvs
      · exact h.newT hs hp ho (hvs.append hws)
    · exact h.elim
  · split at h
    · rename_i e1 e2
      obtain ⟨a, vs, rfl, _, ha, hvs⟩ := hs.lst hx e1
      obtain ⟨b, ws, rfl, _, hb, hws⟩ := hs.lst hy e2
      split at h
      · rename_i hl
        exact .inr (.inr (.inr ⟨a, b, vs, ws, rfl, rfl, ha, hb, by rw [← hvs.length, ← hws.length]; exact hl, fun p hp => h.newL hs hp (hvs.append hws)⟩))
      · exact h.elim
    · exact h.elim
  · exact h.elim
theorem od_sub : OpD K ca fSub (rI0 fun i j => .int (i - j)) := by
  intro W s rh H S x y v w Q hs hx hy h
  unfold fSub at h
  split at h
  · cases hx; cases hy
    exact ⟨_, _, rfl, rfl, h.same hs rfl⟩
  · exact h.elim
/-- a product of two that are not both huge -/
def CMulA (i j : Int) : Prop := CMulW i j ∨ CMul i j
theorem CMulA.of {i j : Int} (h : i.natAbs.log2 + j.natAbs.log2 < 1000000 ∨ i.natAbs < 18446744073709551616 ∨ j.natAbs < 18446744073709551616) : CMulA i j := by
  have e : (2 : Int) ^ 64 = 18446744073709551616 := by decide +kernel
  rcases h with h | h | h
  · exact .inl h
  · refine .inr (.inl ?_)
    rw [e]; omega
  · refine .inr (.inr ?_)
    rw [e]; omega
theorem op_mulA {X : Cx} : OpR X (binaryOp .Mult) (rI CMulA fun i j => .int (i * j)) := opI fun _ _ _ _ _ _ _ hc q => mul_int q (hc.elim CMulW.ok CMul.ok)
theorem od_mul : OpD K ca fMul (rI CMulA fun i j => .int (i * j)) := by
  intro W s rh H S x y v w Q hs hx hy h
  unfold fMul at h
  split at h
  · cases hx; cases hy
    split at h
    · rename_i c
      exact ⟨_, _, rfl, rfl, CMulA.of c, h.same hs rfl⟩
    · exact h.elim
  · exact h.elim
theorem od_mod : OpD K ca fMod (rI (fun _ j => 0 < j) fun i j => .int (i % j)) := by
  intro W s rh H S x y v w Q hs hx hy h
  unfold fMod at h
  split at h
  · cases hx; cases hy
    split at h
    · rename_i c
      exact ⟨_, _, rfl, rfl, c, h.same hs rfl⟩
    · exact h.elim
  · exact h.elim
theorem od_div : OpD K ca fDiv (rI CDivW fun i j => .int (i / j)) := by
  intro W s rh H S x y v w Q hs hx hy h
  unfold fDiv at h
  split at h
  · cases hx; cases hy
    split at h
    · rename_i c
      exact ⟨_, _, rfl, rfl, c, h.same hs rfl⟩
    · exact h.elim
  · exact h.elim
theorem od_pow : OpD K ca fPow (rI CPow fun i j => .int (i ^ j.toNat)) := by
  intro W s rh H S x y v w Q hs hx hy h
  unfold fPow at h
  split at h
  · cases hx; cases hy
    split at h
    · rename_i c
      exact ⟨_, _, rfl, rfl, c, h.same hs rfl⟩
    · exact h.elim
  · exact h.elim
theorem fEqD_of {W : WX} {s : L2.St} {rh : List Addr} {H : Hp} {S : Sto} {x y : PV} {v w : V} {Q : Bool → Hp → Prop} (hs : SR K H rh S) (hx : VR K H rh x v) (hy : VR K H rh y w) (h : PostT K ca W s rh H (fEqD x y S) Q) :
    ∃ d e, Dp K H v d ∧ Dp K H w e ∧ SeqAt.shaped d = true ∧ SeqAt.shaped e = true ∧ Q (PyData.eqv d e) H := by
  unfold fEqD at h
  split at h
  · rename_i d e e1 e2
    split at h
    · rename_i c
      rw [Bool.and_eq_true] at c
      exact ⟨d, e, dp_of hs 64 x v d hx e1, dp_of hs 64 y w e hy e2, c.1, c.2, h.same hs⟩
    · exact h.elim
  · exact h.elim
theorem ob_eq : OpB K ca fEq (fun x y H Q => rEq x y H Q ∨ rEqD K x y H Q) := by
  intro W s rh H S x y v w Q hs hx hy h
  unfold fEq at h
  split at h
  · cases hx; cases hy
    refine .inl ⟨rfl, ?_⟩
    have q := h.same hs
    rw [dec_str, Bool.beq_eq_decide_eq]
    exact q
  · cases hx; cases hy
    refine .inl ⟨rfl, ?_⟩
    have q := h.same hs
    rw [dec_int, Bool.beq_eq_decide_eq]
    exact q
  · exact .inr (fEqD_of (Q := fun b H' => Q (.bl b) H') hs hx hy h)
theorem rNot_of {W : WX} {s : L2.St} {rh : List Addr} {H : Hp} {r : Res Bool} {Q : Bool → Hp → Prop} (h : PostT K ca W s rh H (rNot r) Q) : PostT K ca W s rh H r (fun b H' => Q (!b) H') := by
  cases r with
  | ok b S => exact h
  | exc c f S => exact h
  | bad => exact h
theorem ob_ne : OpB K ca fNe (fun x y H Q => rNe x y H Q ∨ rNeD K x y H Q) := by
  intro W s rh H S x y v w Q hs hx hy h
  replace h := rNot_of h
  unfold fEq at h
  split at h
  · cases hx; cases hy
    refine .inl ⟨rfl, ?_⟩
    have q := h.same hs
    rw [dec_str, Bool.beq_eq_decide_eq]
    exact q
  · cases hx; cases hy
    refine .inl ⟨rfl, ?_⟩
    have q := h.same hs
    rw [dec_int, Bool.beq_eq_decide_eq]
    exact q
  · exact .inr (fEqD_of (Q := fun b H' => Q (.bl (!b)) H') hs hx hy h)
theorem ob_lt : OpB K ca fLt (rI0 fun i j => .bl (decide (i < j))) := by
  intro W s rh H S x y v w Q hs hx hy h
  unfold fLt at h
  split at h
  · cases hx; cases hy
    exact ⟨_, _, rfl, rfl, h.same hs⟩
  · exact h.elim
theorem ob_le : OpB K ca fLe (rI0 fun i j => .bl (decide (i ≤ j))) := by
  intro W s rh H S x y v w Q hs hx hy h
  unfold fLe at h
  split at h
  · cases hx; cases hy
    exact ⟨_, _, rfl, rfl, h.same hs⟩
  · exact h.elim
theorem ob_gt : OpB K ca fGt (rI0 fun i j => .bl (decide (j < i))) := by
  intro W s rh H S x y v w Q hs hx hy h
  unfold fGt at h
  split at h
  · cases hx; cases hy
    exact ⟨_, _, rfl, rfl, h.same hs⟩
  · exact h.elim
theorem ob_ge : OpB K ca fGe (rI0 fun i j => .bl (decide (j ≤ i))) := by
  intro W s rh H S x y v w Q hs hx hy h
  unfold fGe at h
  split at h
  · cases hx; cases hy
    exact ⟨_, _, rfl, rfl, h.same hs⟩
  · exact h.elim
theorem non_iff {rh : List Addr} {H : Hp} {x : PV} {v : V} (h : VR K H rh x v) : decide (v = .non) = isNon x := by
  cases x with
  | tup xs => obtain ⟨a, vs, rfl, _⟩ := h; rfl
  | rol xs => obtain ⟨a, vs, rfl, _⟩ := h; rfl
  | pr xs => obtain ⟨a, vs, rfl, _⟩ := h; rfl
  | ref n => obtain ⟨a, rfl, _⟩ := h; rfl
  | _ => cases h; rfl
theorem ob_isN : OpB K ca fIsN (fun x y H Q => y = .non ∧ Q (.bl (decide (x = .non))) H) := by
  intro W s rh H S x y v w Q hs hx hy h
  unfold fIsN at h
  split at h
  · cases hy
    refine ⟨rfl, ?_⟩
    rw [non_iff hx]
    exact h.same hs
  · exact h.elim
theorem ob_notN : OpB K ca fNotN (fun x y H Q => y = .non ∧ Q (.bl (!decide (x = .non))) H) := by
  intro W s rh H S x y v w Q hs hx hy h
  unfold fNotN at h
  split at h
  · cases hy
    refine ⟨rfl, ?_⟩
    rw [non_iff hx]
    exact h.same hs
  · exact h.elim
/-- k in d -/
def rDIn : R2 := fun y x H Q => ∃ a o, x = .ref a ∧ DGet H a y o ∧ Q (.bl o.isSome) H
def rDNotIn : R2 := fun y x H Q => ∃ a o, x = .ref a ∧ DGet H a y o ∧ Q (.bl (!o.isSome)) H
theorem inFlat_of {W : WX} {s : L2.St} {rh : List Addr} {H : Hp} {S : Sto} {x : PV} {ys : List PV} {v : V} {ws : List V} {Q : Bool → Hp → Prop} (hs : SR K H rh S) (hx : VR K H rh x v) (hy : VRs K H rh ys ws) (h : PostT K ca W s rh H (inFlat x ys S) Q) :
    flatV v = true ∧ ws.all flatV = true ∧ Q (inV v ws) H := by
  unfold inFlat at h
  split at h
  · rename_i c
    rw [Bool.and_eq_true] at c
    refine ⟨flat_of hx c.1, flats_of hy c.2, ?_⟩
    rw [inV_of hx c.1 hy c.2]
    exact h.same hs
  · exact h.elim
theorem inDat_of {W : WX} {s : L2.St} {rh : List Addr} {H : Hp} {S : Sto} {x : PV} {ys : List PV} {v : V} {a : Addr} {ws : List V} {Q : Bool → Hp → Prop} (hs : SR K H rh S) (hx : VR K H rh x v) (ha : SqL K H a ws) (hy : VRs K H rh ys ws) (h : PostT K ca W s rh H (inDat x ys S) Q) :
    ∃ d ds, Dp K H v d ∧ Dp K H (.ref a) (.list ds) ∧ SeqAt.shaped d = true ∧ SeqAt.shaped (.list ds) = true ∧ Q (ds.any fun z => PyData.eqv z d) H := by
  unfold inDat at h
  split at h
  · rename_i d ds e1 e2
    split at h
    · rename_i c
      rw [Bool.and_eq_true] at c
      exact ⟨d, ds, dp_of hs 64 x v d hx e1, .lst ha (dp_all (dp_of hs 63) ys ws ds hy e2), c.1, c.2, h.same hs⟩
    · exact h.elim
  · exact h.elim
def rInAll (K : PySem.W.Frag) : R2 := fun x y H Q => rIn K false x y H Q ∨ (rInD K x y H Q ∨ rDIn x y H Q)
def rNotInAll (K : PySem.W.Frag) : R2 := fun x y H Q => rIn K true x y H Q ∨ (rNotInD K x y H Q ∨ rDNotIn x y H Q)
theorem fIn_of {W : WX} {s : L2.St} {rh : List Addr} {H : Hp} {S : Sto} {x y : PV} {v w : V} {Q : Bool → Hp → Prop} (hs : SR K H rh S) (hx : VR K H rh x v) (hy : VR K H rh y w) (h : PostT K ca W s rh H (fIn x y S) Q) :
    (∃ p ws, w = .ref p ∧ (SqL K H p ws ∨ SqT K H p ws) ∧ flatV v = true ∧ ws.all flatV = true ∧ Q (inV v ws) H) ∨
    (∃ d ds, Dp K H v d ∧ Dp K H w (.list ds) ∧ SeqAt.shaped d = true ∧ SeqAt.shaped (.list ds) = true ∧ Q (ds.any fun z => PyData.eqv z d) H) ∨ ∃ a o, w = .ref a ∧ DGet H a v o ∧ Q o.isSome H := by
  unfold fIn at h
  split at h
  · obtain ⟨a, ws, rfl, ha, hw⟩ := hy
    obtain ⟨q1, q2, q3⟩ := inFlat_of hs hx hw h
    exact .inl ⟨a, ws, rfl, .inr ha.sq, q1, q2, q3⟩
  · obtain ⟨a, ws, rfl, ha, hw⟩ := hy
    obtain ⟨q1, q2, q3⟩ := inFlat_of hs hx hw h
    exact .inl ⟨a, ws, rfl, .inl ha.sq, q1, q2, q3⟩
  · split at h
    · rename_i e
      obtain ⟨a, ws, rfl, _, ha, hw⟩ := hs.lst hy e
      split at h
      · rename_i c
        obtain ⟨q1, q2, q3⟩ := inFlat_of hs hx hw (show PostT K ca W s rh H (inFlat x _ S) Q by unfold inFlat; rw [if_pos c]; exact h)
        exact .inl ⟨a, ws, rfl, .inl (SqL.of ha), q1, q2, q3⟩
      · exact .inr (.inl (inDat_of hs hx (SqL.of ha) hw h))
    · rename_i e
      obtain ⟨a, ws, rfl, _, ha, hw⟩ := hs.dic hy e
      split at h
      · rename_i k ek
        have ev := key_of hx ek
        subst ev
        refine .inr (.inr ⟨a, _, rfl, DGet.k ha, ?_⟩)
        have q := h.same hs
        rcases dGet_of k hw with ⟨g1, g2⟩ | ⟨z, u, g1, g2, _⟩
        · rw [g1] at q; rw [g2]; exact q
        · rw [g1] at q; rw [g2]; exact q
      · exact h.elim
    · rename_i e
      obtain ⟨a, ws, od, rfl, _, ha, hw⟩ := hs.fdic hy e
      split at h
      · rename_i k ek
        have ev := key_of hx ek
        subst ev
        refine .inr (.inr ⟨a, _, rfl, .inl ⟨ws, k, .inr ⟨od, ha⟩, rfl, rfl⟩, ?_⟩)
        have q := h.same hs
        rcases dGet_of k hw with ⟨g1, g2⟩ | ⟨z, u, g1, g2, _⟩
        · rw [g1] at q; rw [g2]; exact q
        · rw [g1] at q; rw [g2]; exact q
      · exact h.elim
    · exact h.elim
  · exact h.elim
theorem ob_in : OpB K ca fIn (rInAll K) := by
  intro W s rh H S x y v w Q hs hx hy h
  rcases fIn_of hs hx hy h with ⟨p, ws, rfl, a, b, c, d⟩ | ⟨d, ds, a, b, c, e, q⟩ | ⟨a, o, rfl, g, q⟩
  · exact .inl ⟨p, ws, rfl, a, b, c, d⟩
  · exact .inr (.inl ⟨d, ds, a, b, c, e, q⟩)
  · exact .inr (.inr ⟨a, o, rfl, g, q⟩)
theorem ob_notin : OpB K ca fNotIn (rNotInAll K) := by
  intro W s rh H S x y v w Q hs hx hy h
  rcases fIn_of hs hx hy (rNot_of h) with ⟨p, ws, rfl, a, b, c, d⟩ | ⟨d, ds, a, b, c, e, q⟩ | ⟨a, o, rfl, g, q⟩
  · exact .inl ⟨p, ws, rfl, a, b, c, d⟩
  · exact .inr (.inl ⟨d, ds, a, b, c, e, q⟩)
  · exact .inr (.inr ⟨a, o, rfl, g, q⟩)
/-- a[i] of a dict -/
def rIxD : R2 := fun x y H Q => ∃ a v, x = .ref a ∧ DGet H a y (some v) ∧ Q v H
theorem od_ix : OpD K ca fIx (fun x y H Q => rIx K x y H Q ∨ rIxD x y H Q) := by
  intro W s rh H S x y v w Q hs hx hy h
  have fin : ∀ {xs : List PV} {vs : List V} {i : Int}, VRs K H rh xs vs → Post K ca W s rh H (optRes (atI xs i) S) Q → ∃ u, atI vs i = some u ∧ Q u H := by
    intro xs vs i hv q
    cases e : atI xs i with
    | none => rw [e] at q; exact q.elim
    | some z =>
      rw [e] at q
      unfold atI at e ⊢
      rw [← hv.length]
      cases ei : ixN xs.length i with
      | none => rw [ei] at e; simp at e
      | some j =>
        rw [ei] at e
        obtain ⟨u, g1, g2⟩ := hv.get (show xs[j]? = some z from e)
        exact ⟨u, g1, q.same hs g2⟩
  unfold fIx at h
  split at h
  · obtain ⟨a, vs, rfl, ha, hv⟩ := hx
    cases hy
    obtain ⟨u, g1, g2⟩ := fin hv h
    exact .inl (.inr (.inl ⟨a, vs, _, u, rfl, rfl, ha.sq, g1, g2⟩))
  · obtain ⟨a, vs, rfl, ha, hv⟩ := hx
    cases hy
    obtain ⟨u, g1, g2⟩ := fin hv h
    exact .inl (.inl ⟨a, vs, _, u, rfl, rfl, ha.sq, g1, g2⟩)
  · cases hx; cases hy
    split at h
    · rename_i z i hl
      cases e : atI z.cps.toList i with
      | none => rw [e] at h; exact h.elim
      | some c =>
        rw [e] at h
        exact .inl (.inr (.inr ⟨z, i, c, rfl, rfl, hl, e, h.same hs rfl⟩))
    · exact h.elim
  · split at h
    · rename_i e
      obtain ⟨a, vs, rfl, _, ha, hv⟩ := hs.lst hx e
      split at h
      · cases hy
        obtain ⟨u, g1, g2⟩ := fin hv h
        exact .inl (.inl ⟨a, vs, _, u, rfl, rfl, SqL.of ha, g1, g2⟩)
      · exact h.elim
    · rename_i e
      obtain ⟨a, ws, rfl, _, ha, hw⟩ := hs.dic hx e
      split at h
      · rename_i k ek
        have ev := key_of hy ek
        subst ev
        rcases dGet_of k hw with ⟨g1, g2⟩ | ⟨z, u, g1, g2, g3⟩
        · rw [g1] at h; exact h.elim
        · rw [g1] at h
          exact .inr ⟨a, u, rfl, by rw [← g2]; exact DGet.k ha, h.same hs g3⟩
      · exact h.elim
    · rename_i e
      obtain ⟨a, ws, od, rfl, _, ha, hw⟩ := hs.fdic hx e
      split at h
      · rename_i k ek
        have ev := key_of hy ek
        subst ev
        rcases dGet_of k hw with ⟨g1, g2⟩ | ⟨z, u, g1, g2, g3⟩
        · rw [g1] at h; exact h.elim
        · rw [g1] at h
          exact .inr ⟨a, u, rfl, .inl ⟨ws, k, .inr ⟨od, ha⟩, rfl, g2.symm⟩, h.same hs g3⟩
      · exact h.elim
    · exact h.elim
  · exact h.elim
end
section
variable {X : Cx} {ca : Nat → Addr} {W : WX} {a b c : Expr} {ma mb : DE} {ta tb : DT} {pos : Pos} {rest : List Expr}
/-- what LE, LT .. of this place are -/
abbrev GE (X : Cx) (ca : Nat → Addr) (W : WX) (e : Expr) (m : DE) : Prop := PE X e (LE X.K ca W m)
abbrev GT (X : Cx) (ca : Nat → Addr) (W : WX) (e : Expr) (m : DT) : Prop := PT X e (LT X.K ca W m)
abbrev GW (X : Cx) (ca : Nat → Addr) (W : WX) (e : Expr) (m : DT) : Prop := PW X e (LT X.K ca W m)
abbrev GA (X : Cx) (ca : Nat → Addr) (W : WX) (e : List Expr) (m : DA) : Prop := PA X e (LA X.K ca W m)
abbrev GS (X : Cx) (ca : Nat → Addr) (W : WX) (e : Stmt) (m : DS) : Prop := PS X e (LS X.K ca W m)
abbrev GSs (X : Cx) (ca : Nat → Addr) (W : WX) (e : List Stmt) (m : DS) : Prop := PSs X e (LS X.K ca W m)
theorem ix_dict (hu : X.A.units + 1 < cLine) : IxR X rIxD := by
  intro value slice pins s σ H x y v u Q I rx ry h hs
  obtain ⟨a, z, rfl, g, q⟩ := h
  cases rx
  exact tail_any (dict_typeIs I g) PySem.F.slot_dict_getitem.lookup (d_getItem hu I g ry fun w' s3 I3 rw' => ⟨z, H, I3, rw', q⟩) hs
theorem op_dIn (hu : X.A.units + 1 < cLine) : OpR X (compareOp .In) rDIn := by
  intro pins s σ H x y v u Q I rx ry h
  obtain ⟨a, o, rfl, g, q⟩ := h
  cases ry
  exact d_in hu I g rx fun s3 I3 => ⟨.bl o.isSome, H, I3, rfl, q⟩
theorem op_dNotIn (hu : X.A.units + 1 < cLine) : OpR X (compareOp .NotIn) rDNotIn := by
  intro pins s σ H x y v u Q I rx ry h
  obtain ⟨a, o, rfl, g, q⟩ := h
  cases ry
  exact d_notIn hu I g rx fun s3 I3 => ⟨.bl (!o.isSome), H, I3, rfl, q⟩
theorem x_var {i : Nat} {x : Str} (h : PE X (.Name x pos) (tVar i)) : GE X ca W (.Name x pos) (eVar i) := by
  refine pe_imp h fun s H Q ⟨rh, en, S, he, hs, hp⟩ => ?_
  unfold eVar at hp
  split at hp
  · rename_i x e
    obtain ⟨v, e1, hv⟩ := he.at_ i x e
    exact ⟨v, e1, hp.same hs hv⟩
  · exact hp.elim
theorem x_c {v : V} {x : PV} (h : PE X a (tC v)) (r : ∀ H rh, VR X.K H rh x v) : GE X ca W a (eC x) := by
  refine pe_imp h fun s H Q ⟨rh, en, S, he, hs, hp⟩ => ?_
  exact hp.same hs (r H rh)
theorem x_int {i : Int} {j} : GE X ca W (.Constant (.int i) j pos) (eC (.int i)) := x_c pe_int fun _ _ => rfl
theorem x_bl {i : Bool} {j} : GE X ca W (.Constant (.bool i) j pos) (eC (.bl i)) := x_c pe_bl fun _ _ => rfl
theorem x_str {i : Str} {j} : GE X ca W (.Constant (.str i) j pos) (eC (.str i)) := x_c pe_str fun _ _ => rfl
theorem x_non {j} : GE X ca W (.Constant .none j pos) (eC .non) := x_c pe_non fun _ _ => rfl
theorem x_bin {op : Operator} {f : PV → PV → Sto → Res PV} {r : R2} (ho : OpR X (binaryOp op) r) (hf : OpD X.K ca f r) (ha : GE X ca W a ma) (hb : GE X ca W b mb) : GE X ca W (.BinOp a op b pos) (eBin f ma mb) := by
  refine pe_imp (pe_op ho ha hb) fun s H Q ⟨rh, en, S, he, hs, hp⟩ => ?_
  refine (Post.bind he hs hp).mono fun v H1 ⟨rh1, x, S1, e1, he1, hs1, hx1, hp1⟩ => ?_
  refine (Post.bind he1 hs1 hp1).mono fun w H2 ⟨rh2, y, S2, e2, he2, hs2, hy2, hp2⟩ => ?_
  exact hf W s rh2 H2 S2 x y v w Q hs2 (VR.ext e2 _ _ hx1) hy2 hp2
end
end Dn
namespace Dn
open PySem PySem.Spec PyProof.Rows L2

section
variable {X : Cx} {ca : Nat → Addr} {W : WX} {a b c : Expr} {ma mb mc : DE} {ta tb tc : DT} {pos : Pos} {rest : List Expr}
def UnD (K : PySem.W.Frag) (ca : Nat → Addr) (f : PV → Sto → Res PV) (r : V → Hp → VK → Prop) : Prop :=
  ∀ (W : WX) (s : L2.St) (rh : List Addr) (H : Hp) (S : Sto) (x : PV) (v : V) (Q : VK), SR K H rh S → VR K H rh x v → Post K ca W s rh H (f x S) Q → r v H Q
theorem x_un {op : UnaryOp} {f : PV → Sto → Res PV} {r : V → Hp → VK → Prop} (ho : UnR X (unaryOp op) r) (hf : UnD X.K ca f r) (ha : GE X ca W a ma) : GE X ca W (.UnaryOp op a pos) (eUn f ma) := by
  refine pe_imp (pe_un ho ha) fun s H Q ⟨rh, en, S, he, hs, hp⟩ => ?_
  exact (Post.bind he hs hp).mono fun v H1 ⟨rh1, x, S1, e1, he1, hs1, hx1, hp1⟩ => hf W s rh1 H1 S1 x v Q hs1 hx1 hp1
theorem ud_neg {K : PySem.W.Frag} : UnD K ca fNeg (rU fun i => .int (-i)) := by
  intro W s rh H S x v Q hs hx h
  unfold fNeg at h
  split at h
  · cases hx
    exact ⟨_, rfl, h.same hs rfl⟩
  · exact h.elim
theorem x_neg (ha : GE X ca W a ma) : GE X ca W (.UnaryOp .USub a pos) (eUn fNeg ma) := x_un un_neg ud_neg ha
theorem x_add (ha : GE X ca W a ma) (hb : GE X ca W b mb) : GE X ca W (.BinOp a .Add b pos) (eBin fAdd ma mb) := x_bin (op_add.or (op_add_str.or (op_catX.or op_cat))) od_add ha hb
theorem x_sub (ha : GE X ca W a ma) (hb : GE X ca W b mb) : GE X ca W (.BinOp a .Sub b pos) (eBin fSub ma mb) := x_bin op_sub od_sub ha hb
theorem x_mul (ha : GE X ca W a ma) (hb : GE X ca W b mb) : GE X ca W (.BinOp a .Mult b pos) (eBin fMul ma mb) := x_bin op_mulA od_mul ha hb
theorem x_mod (ha : GE X ca W a ma) (hb : GE X ca W b mb) : GE X ca W (.BinOp a .Mod b pos) (eBin fMod ma mb) := x_bin op_mod od_mod ha hb
theorem x_div (ha : GE X ca W a ma) (hb : GE X ca W b mb) : GE X ca W (.BinOp a .FloorDiv b pos) (eBin fDiv ma mb) := x_bin op_fdivW od_div ha hb
theorem x_pow (ha : GE X ca W a ma) (hb : GE X ca W b mb) : GE X ca W (.BinOp a .Pow b pos) (eBin fPow ma mb) := x_bin op_pow od_pow ha hb
/-- a comparison as a test, as a value -/
theorem tst_cmp {op : CmpOp} {f : PV → PV → Sto → Res Bool} {r : R2} (ho : OpR X (compareOp op) r) (hf : OpB X.K ca f r) (ha : GE X ca W a ma) (hb : GE X ca W b mb) (hm : behindInMarks op b = false := by first | exact nomark _ | rfl) :
    GT X ca W (.Compare a [op] [b] pos) (tCmp f ma mb) := by
  refine pt_imp (pt_cmpR ho ha hb hm) fun s H Q ⟨rh, en, S, he, hs, hp⟩ => ?_
  refine (PostT.bind he hs hp).mono fun v H1 ⟨rh1, x, S1, e1, he1, hs1, hx1, hp1⟩ => ?_
  refine (PostT.bind he1 hs1 hp1).mono fun w H2 ⟨rh2, y, S2, e2, he2, hs2, hy2, hp2⟩ => ?_
  refine hf W s rh2 H2 S2 x y v w _ hs2 (VR.ext e2 _ _ hx1) hy2 (hp2.mono fun k H' q => ⟨k, rfl, q⟩)
theorem Post.ofT {K : PySem.W.Frag} {s : L2.St} {rh : List Addr} {H : Hp} {r : Res Bool} {Q : VK} (h : Post K ca W s rh H (r.bind fun b S1 => .ok (.bl b) S1) Q) : PostT K ca W s rh H r (fun b H' => Q (.bl b) H') := by
  cases r with
  | ok b S => exact fun rh' H' e a => h rh' H' _ e a rfl
  | exc c f S => exact h
  | bad => exact h
theorem Res.bind_assoc {α β γ : Type} (r : Res α) (f : α → Sto → Res β) (g : β → Sto → Res γ) : (r.bind f).bind g = r.bind fun a S => (f a S).bind g := by cases r <;> rfl
theorem x_cmp {op : CmpOp} {f : PV → PV → Sto → Res Bool} {r : R2} (ho : OpR X (compareOp op) r) (hf : OpB X.K ca f r) (ha : GE X ca W a ma) (hb : GE X ca W b mb) (hm : behindInMarks op b = false := by first | exact nomark _ | rfl) :
    GE X ca W (.Compare a [op] [b] pos) (eTst (tCmp f ma mb)) := by
  refine pe_imp (pe_cmpR ho ha hb hm) fun s H Q ⟨rh, en, S, he, hs, hp⟩ => ?_
  unfold eTst tCmp at hp
  rw [Res.bind_assoc] at hp
  refine (Post.bind he hs hp).mono fun v H1 ⟨rh1, x, S1, e1, he1, hs1, hx1, hp1⟩ => ?_
  rw [Res.bind_assoc] at hp1
  refine (Post.bind he1 hs1 hp1).mono fun w H2 ⟨rh2, y, S2, e2, he2, hs2, hy2, hp2⟩ => ?_
  exact hf W s rh2 H2 S2 x y v w _ hs2 (VR.ext e2 _ _ hx1) hy2 (Post.ofT hp2)
theorem big64 (h : X.A.units + 100 < cLine) : X.A.units + 64 < cLine := by omega
theorem big65 (h : X.A.units + 100 < cLine) : X.A.units + 65 < cLine := by omega
theorem big1 (h : X.A.units + 100 < cLine) : X.A.units + 1 < cLine := by omega
theorem oq_eq (hu : X.A.units + 100 < cLine) : OpR X (compareOp .Eq) (fun x y H Q => rEq x y H Q ∨ rEqD X.K x y H Q) := op_eq.or (op_eqD (big64 hu))
theorem oq_ne (hu : X.A.units + 100 < cLine) : OpR X (compareOp .NotEq) (fun x y H Q => rNe x y H Q ∨ rNeD X.K x y H Q) := op_ne.or (op_neD (big64 hu))
theorem oq_in (hu : X.A.units + 100 < cLine) : OpR X (compareOp .In) (rInAll X.K) := op_in_seq.or ((op_inD (big65 hu)).or (op_dIn (big1 hu)))
theorem oq_notin (hu : X.A.units + 100 < cLine) : OpR X (compareOp .NotIn) (rNotInAll X.K) := op_notIn_seq.or ((op_notInD (big65 hu)).or (op_dNotIn (big1 hu)))
/-- a value that is a bool, as a test -/
theorem tst_val (ha : GE X ca W a ma) (he : ∀ whole, isTrue a X.env whole = (do let v ← whole; standAt a.pos; holding [v] (truthy v)) := by intro _; rfl) : GT X ca W a (tVal ma) := by
  refine pt_imp (pt_val ha he) fun s H Q ⟨rh, en, S, he, hs, hp⟩ => ?_
  refine (PostT.bind he hs hp).mono fun v H1 ⟨rh1, x, S1, e1, he1, hs1, hx1, hp1⟩ => ?_
  split at hp1
  · cases hx1
    exact ⟨_, rfl, hp1.same hs1⟩
  · exact hp1.elim
theorem w_and1 (ha : GT X ca W a ta) : GW X ca W (.BoolOp .And [a] pos) ta := pw_and1 ha
theorem w_or1 (ha : GT X ca W a ta) : GW X ca W (.BoolOp .Or [a] pos) ta := pw_or1 ha
theorem ite_post {K : PySem.W.Frag} {s : L2.St} {rh : List Addr} {H : Hp} {en : En} {S : Sto} {k : Bool} {m : DT} {Q : Bool → Hp → Prop} {d : Bool} : True := trivial
theorem w_and (ha : GT X ca W a ta) (hb : GW X ca W (.BoolOp .And (b :: rest) pos) tb) : GW X ca W (.BoolOp .And (a :: b :: rest) pos) (tAnd ta tb) := by
  refine pw_imp (pw_and ha hb) fun s H Q ⟨rh, en, S, he, hs, hp⟩ => ?_
  refine (PostT.bindT he hs hp).mono fun k H1 ⟨rh1, S1, e1, he1, hs1, hp1⟩ => ?_
  cases k with
  | true => exact ⟨rh1, en, S1, he1, hs1, hp1⟩
  | false => exact hp1.same hs1
theorem w_or (ha : GT X ca W a ta) (hb : GW X ca W (.BoolOp .Or (b :: rest) pos) tb) : GW X ca W (.BoolOp .Or (a :: b :: rest) pos) (tOr ta tb) := by
  refine pw_imp (pw_or ha hb) fun s H Q ⟨rh, en, S, he, hs, hp⟩ => ?_
  refine (PostT.bindT he hs hp).mono fun k H1 ⟨rh1, S1, e1, he1, hs1, hp1⟩ => ?_
  cases k with
  | false => exact ⟨rh1, en, S1, he1, hs1, hp1⟩
  | true => exact hp1.same hs1
theorem tst_w (h : GW X ca W a ta) : GT X ca W a ta := h.pt
theorem tst_not (ha : GT X ca W a ta) : GT X ca W (.UnaryOp .Not a pos) (tNot ta) := by
  refine pt_imp (pt_not ha) fun s H Q ⟨rh, en, S, he, hs, hp⟩ => ?_
  exact (PostT.bindT he hs hp).mono fun k H1 ⟨rh1, S1, e1, he1, hs1, hp1⟩ => hp1.same hs1
/-- .. as values -/
def eAnd (a b : DE) : DE := fun en S => (a en S).bind fun x S1 => match x with
  | .bl c => if c = true then b en S1 else .ok (.bl false) S1
  | _ => .bad
def eOr (a b : DE) : DE := fun en S => (a en S).bind fun x S1 => match x with
  | .bl c => if c = true then .ok (.bl true) S1 else b en S1
  | _ => .bad
def fNot (x : PV) (S : Sto) : Res PV := match x with
  | .bl c => .ok (.bl (!c)) S
  | _ => .bad
theorem x_one {op} (h : GE X ca W a ma) : GE X ca W (.BoolOp op [a] pos) ma := pe_one h
theorem x_and (ha : GE X ca W a ma) (hb : GE X ca W (.BoolOp .And (b :: rest) pos) mb) : GE X ca W (.BoolOp .And (a :: b :: rest) pos) (eAnd ma mb) := by
  refine pe_imp (pe_and ha hb) fun s H Q ⟨rh, en, S, he, hs, hp⟩ => ?_
  refine (Post.bind he hs hp).mono fun v H1 ⟨rh1, x, S1, e1, he1, hs1, hx1, hp1⟩ => ?_
  cases x with
  | bl c =>
    cases hx1
    refine ⟨c, rfl, ?_⟩
    cases c with
    | true => exact ⟨rh1, en, S1, he1, hs1, hp1⟩
    | false => exact hp1.same hs1 rfl
  | _ => exact hp1.elim
theorem x_or (ha : GE X ca W a ma) (hb : GE X ca W (.BoolOp .Or (b :: rest) pos) mb) : GE X ca W (.BoolOp .Or (a :: b :: rest) pos) (eOr ma mb) := by
  refine pe_imp (pe_or ha hb) fun s H Q ⟨rh, en, S, he, hs, hp⟩ => ?_
  refine (Post.bind he hs hp).mono fun v H1 ⟨rh1, x, S1, e1, he1, hs1, hx1, hp1⟩ => ?_
  cases x with
  | bl c =>
    cases hx1
    refine ⟨c, rfl, ?_⟩
    cases c with
    | false => exact ⟨rh1, en, S1, he1, hs1, hp1⟩
    | true => exact hp1.same hs1 rfl
  | _ => exact hp1.elim
theorem x_not (ha : GE X ca W a ma) : GE X ca W (.UnaryOp .Not a pos) (eUn fNot ma) := by
  refine pe_imp (pe_not ha) fun s H Q ⟨rh, en, S, he, hs, hp⟩ => ?_
  refine (Post.bind he hs hp).mono fun v H1 ⟨rh1, x, S1, e1, he1, hs1, hx1, hp1⟩ => ?_
  unfold fNot at hp1
  split at hp1
  · cases hx1
    exact ⟨_, rfl, hp1.same hs1 rfl⟩
  · exact hp1.elim
theorem x_if (hc : GT X ca W c tc) (ha : GE X ca W a ma) (hb : GE X ca W b mb) : GE X ca W (.IfExp c a b pos) (eIf tc ma mb) := by
  refine pe_imp (pe_ifExp hc ha hb) fun s H Q ⟨rh, en, S, he, hs, hp⟩ => ?_
  refine (Post.bindT he hs hp).mono fun k H1 ⟨rh1, S1, e1, he1, hs1, hp1⟩ => ?_
  cases k with
  | true => exact ⟨rh1, en, S1, he1, hs1, hp1⟩
  | false => exact ⟨rh1, en, S1, he1, hs1, hp1⟩

variable {es : List Expr} {m : DA}
theorem y_nil : GA X ca W [] aNil := pa_imp pa_nil fun s H Q ⟨rh, en, S, he, hs, hp⟩ => hp rh H [] Ext.refl hs rfl
theorem y_cons (ha : GE X ca W a ma) (hr : GA X ca W es m) (hst : starEach (a :: es) X.env = (false, eval a X.env) :: starEach es X.env := by rfl) : GA X ca W (a :: es) (aCons ma m) := by
  refine pa_imp (pa_cons ha hr hst) fun s H Q ⟨rh, en, S, he, hs, hp⟩ => ?_
  refine (PostA.bind he hs hp).mono fun v H1 ⟨rh1, x, S1, e1, he1, hs1, hx1, hp1⟩ => ?_
  refine (PostA.bindA he1 hs1 hp1).mono fun vs H2 ⟨rh2, xs, S2, e2, he2, hs2, hx2, hp2⟩ => ?_
  exact hp2 rh2 H2 (v :: vs) Ext.refl hs2 ⟨v, vs, rfl, VR.ext e2 _ _ hx1, hx2⟩
theorem x_tup {k} (h : GA X ca W es m) : GE X ca W (.Tuple es k pos) (eTup m) := by
  refine pe_imp (pe_tupX h) fun s H Q ⟨rh, en, S, he, hs, hp⟩ => ?_
  refine (Post.bindA he hs hp).mono fun vs H1 ⟨rh1, xs, S1, e1, he1, hs1, hx1, hp1⟩ => ?_
  split at hp1
  · rename_i hl
    exact ⟨by rw [← hx1.length]; exact hl, fun p o hp ho => hp1.newT hs1 hp ho hx1⟩
  · exact hp1.elim
theorem x_lst (h : GA X ca W es m) : GE X ca W (.List es pos) (eLst m) := by
  refine pe_imp (pe_lst h) fun s H Q ⟨rh, en, S, he, hs, hp⟩ => ?_
  refine (Post.bindA he hs hp).mono fun vs H1 ⟨rh1, xs, S1, e1, he1, hs1, hx1, hp1⟩ => ?_
  split at hp1
  · rename_i hl
    exact ⟨by rw [← hx1.length]; exact hl, fun p hp => hp1.newL hs1 hp hx1⟩
  · exact hp1.elim
theorem x_ix (hu : X.A.units + 100 < cLine) (ha : GE X ca W a ma) (hb : GE X ca W b mb) (hp : PlainIx b := by intro _ _; rfl) : GE X ca W (.Subscript a b pos) (eBin fIx ma mb) := by
  refine pe_imp (pe_ix (ix_seq.or (ix_dict (big1 hu))) ha hb hp) fun s H Q ⟨rh, en, S, he, hs, hp⟩ => ?_
  refine (Post.bind he hs hp).mono fun v H1 ⟨rh1, x, S1, e1, he1, hs1, hx1, hp1⟩ => ?_
  refine (Post.bind he1 hs1 hp1).mono fun w H2 ⟨rh2, y, S2, e2, he2, hs2, hy2, hp2⟩ => ?_
  exact od_ix W s rh2 H2 S2 x y v w Q hs2 (VR.ext e2 _ _ hx1) hy2 hp2
def LO (K : PySem.W.Frag) (ca : Nat → Addr) (W : WX) (m : DO) : TO := fun s H Q => ∃ rh en S, ER K H rh en s ∧ SR K H rh S ∧ match m en S with
  | .ok o S1 => ∀ rh' H', Ext K rh H rh' H' → SR K H' rh' S1 → Q o H'
  | .exc c f S1 => ∀ rh' H' d, Ext K rh H rh' H' → SR K H' rh' S1 → XR K H' rh' f d → W (.ref (ca c)) d s H'
  | .bad => False
abbrev GO (X : Cx) (ca : Nat → Addr) (W : WX) (e : Option Expr) (m : DO) : Prop := PO X e (LO X.K ca W m)
theorem po_imp {e : Option Expr} {t t' : TO} (h : PO X e t) (i : ∀ s H Q, t' s H Q → t s H Q) : PO X e t' := ⟨fun pins s σ H Q I q => h.run pins s σ H Q I (i σ H Q q)⟩
theorem o_none : GO X ca W none oNone := po_imp po_none fun s H Q ⟨rh, en, S, he, hs, hp⟩ => hp rh H Ext.refl hs
theorem o_some (ha : GE X ca W a ma) : GO X ca W (some a) (oSome ma) := by
  refine po_imp (po_some ha) fun s H Q ⟨rh, en, S, he, hs, hp⟩ => ?_
  refine ⟨rh, en, S, he, hs, ?_⟩
  unfold oSome at hp
  cases e : ma en S with
  | bad => rw [e] at hp; exact hp
  | exc c f S1 => rw [e] at hp; exact hp
  | ok x S1 =>
    rw [e] at hp
    intro rh' H' v e1 hs1 hx
    cases x with
    | int i => cases hx; exact ⟨i, rfl, hp rh' H' e1 hs1⟩
    | _ => exact hp.elim
theorem cut_of {K : PySem.W.Frag} {H : Hp} {rh : List Addr} {xs : List PV} {vs : List V} (lo hi : Option Int) (h : VRs K H rh xs vs) : VRs K H rh (cutP xs lo hi) (cutV vs lo hi) := by
  unfold cutP cutV
  rw [h.length]
  exact (h.drop _).take _
theorem LO.bind {K : PySem.W.Frag} {s : L2.St} {rh : List Addr} {H : Hp} {en : En} {S : Sto} {mo : DO} {k : Option Int → Sto → Res PV} {Q : VK} (he : ER K H rh en s) (hs : SR K H rh S) (h : Post K ca W s rh H ((mo en S).bind k) Q) :
    LO K ca W mo s H fun o H1 => ∃ rh1 S1, Ext K rh H rh1 H1 ∧ ER K H1 rh1 en s ∧ SR K H1 rh1 S1 ∧ Post K ca W s rh1 H1 (k o S1) Q := by
  refine ⟨rh, en, S, he, hs, ?_⟩
  cases q : mo en S with
  | ok x S1 =>
    rw [q] at h
    exact fun rh1 H1 e a => ⟨rh1, S1, e, he.ext e, a, Post.later e h⟩
  | exc c f S1 => rw [q] at h; exact h
  | bad => rw [q] at h; exact h
theorem x_cut {lo hi : Option Expr} {p2 : Pos} {ol oh : DO} (ha : GE X ca W a ma) (hl : GO X ca W lo ol) (hh : GO X ca W hi oh) : GE X ca W (.Subscript a (.Slice lo hi none p2) pos) (eCut ma ol oh) := by
  refine pe_imp (pe_slice (sl_tupX.or sl_list) ha hl hh) fun s H Q ⟨rh, en, S, he, hs, hp⟩ => ?_
  refine (Post.bind he hs hp).mono fun v H1 ⟨rh1, x, S1, e1, he1, hs1, hx1, hp1⟩ => ?_
  obtain ⟨rh1', en1, S1', a1, a2, a3⟩ := LO.bind he1 hs1 hp1
  refine ⟨rh1', en1, S1', a1, a2, ?_⟩
  have go : ∀ (o : Option Int) (H2 : Hp), (∃ rh2 S2, Ext X.K rh1 H1 rh2 H2 ∧ ER X.K H2 rh2 en s ∧ SR X.K H2 rh2 S2 ∧ Post X.K ca W s rh2 H2 ((oh en S2).bind fun u S3 => fCut x o u S3) Q) →
      LO X.K ca W oh s H2 fun u H3 => (rSlX X.K v o u H3 Q ∨ rSlL X.K v o u H3 Q) := fun o H2 ⟨rh2, S2, e2, he2, hs2, hp2⟩ => by
    obtain ⟨rh2', en2, S2', b1, b2, b3⟩ := LO.bind he2 hs2 hp2
    refine ⟨rh2', en2, S2', b1, b2, ?_⟩
    have fin : ∀ (u : Option Int) (H3 : Hp), (∃ rh3 S3, Ext X.K rh2 H2 rh3 H3 ∧ ER X.K H3 rh3 en s ∧ SR X.K H3 rh3 S3 ∧ Post X.K ca W s rh3 H3 (fCut x o u S3) Q) → (rSlX X.K v o u H3 Q ∨ rSlL X.K v o u H3 Q) := fun u H3 ⟨rh3, S3, e3, he3, hs3, hp3⟩ => by
      have hx3 := VR.ext (e2.trans e3) _ _ hx1
      unfold fCut at hp3
      split at hp3
      · obtain ⟨p, vs, rfl, hp', hv⟩ := hx3
        refine .inl ⟨p, vs, rfl, hp'.sq, fun hw => ?_, fun hw q ob hq ho => hp3.newT hs3 hq ho (cut_of o u hv)⟩
        refine hp3.same hs3 ⟨p, vs, rfl, hp', ?_⟩
        have ec : cutV vs o u = vs := by
          unfold cutV
          rw [hw.1, hw.2, List.drop_zero, Nat.sub_zero, List.take_length]
        have := cut_of o u hv
        rw [ec] at this
        exact this
      · obtain ⟨p, vs, rfl, hp', hv⟩ := hx3
        exact .inr ⟨p, vs, rfl, hp'.sq, fun q hq => hp3.newL hs3 hq (cut_of o u hv)⟩
      · split at hp3
        · rename_i e
          obtain ⟨p, vs, rfl, _, hp', hv⟩ := hs3.lst hx3 e
          exact .inr ⟨p, vs, rfl, SqL.of hp', fun q hq => hp3.newL hs3 hq (cut_of o u hv)⟩
        · exact hp3.elim
      · exact hp3.elim
    cases q : oh en2 S2' with
    | ok u S3 => rw [q] at b3; exact fun rh3 H3 e3 g3 => fin u H3 (b3 rh3 H3 e3 g3)
    | exc c f S3 => rw [q] at b3; exact b3
    | bad => rw [q] at b3; exact b3
  cases q : ol en1 S1' with
  | ok o S2 => rw [q] at a3; exact fun rh2 H2 e2 g2 => go o H2 (a3 rh2 H2 e2 g2)
  | exc c f S2 => rw [q] at a3; exact a3
  | bad => rw [q] at a3; exact a3

def FnD (K : PySem.W.Frag) (ca : Nat → Addr) (f : List PV → Sto → Res PV) (r : List V → Hp → VK → Prop) : Prop :=
  ∀ (W : WX) (s : L2.St) (rh : List Addr) (H : Hp) (S : Sto) (xs : List PV) (vs : List V) (Q : VK), SR K H rh S → VRs K H rh xs vs → Post K ca W s rh H (f xs S) Q → r vs H Q
theorem FnD.cb {K : PySem.W.Frag} {f : List PV → Sto → Res PV} {r : List V → Hp → VK → Prop} (hf : FnD K ca f r) {s : L2.St} {H : Hp} {Q : VK} (h : LE K ca W (eFn f m) s H Q) : tCB r (LA K ca W m) s H Q := by
  obtain ⟨rh, en, S, he, hs, hp⟩ := h
  exact (Post.bindA he hs hp).mono fun vs H1 ⟨rh1, xs, S1, e1, he1, hs1, hx1, hp1⟩ => hf W s rh1 H1 S1 xs vs Q hs1 hx1 hp1
variable {x id T : Str} {p : Pos} {e : Expr}
theorem x_callB {id : String} {f : List PV → Sto → Res PV} {r : List V → Hp → VK → Prop} (hc : CallR X (.builtin id) r) (hf : FnD X.K ca f r) (hg : Gl X x) (hm : X.mg x = none) (hv : bootBuiltins x = some (.builtin id)) (ha : GA X ca W (e :: es) m) (hn : x ≠ "__name__" := by decide) (hdb : (x == ("__debug__" : Str)) = false := by decide)
    (he : starEach (e :: es) X.env = (false, eval e X.env) :: starEach es X.env := by rfl) (hpl : (backTo pos (starEach es X.env)).any (·.1) = false := by rfl) : GE X ca W (.Call (.Name x p) (e :: es) [] pos) (eFn f m) :=
  pe_imp (pe_callB hc hg hm hv ha hn hdb he hpl) fun s H Q h => hf.cb h
theorem x_callTy {T : String} {f : List PV → Sto → Res PV} {r : List V → Hp → VK → Prop} (hc : CallR X (.type T) r) (hf : FnD X.K ca f r) (hg : Gl X x) (hm : X.mg x = none) (hv : bootBuiltins x = some (.type T)) (ha : GA X ca W (e :: es) m) (hn : x ≠ "__name__" := by decide) (hdb : (x == ("__debug__" : Str)) = false := by decide)
    (he : starEach (e :: es) X.env = (false, eval e X.env) :: starEach es X.env := by rfl) (hpl : (backTo pos (starEach es X.env)).any (·.1) = false := by rfl) : GE X ca W (.Call (.Name x p) (e :: es) [] pos) (eFn f m) :=
  pe_imp (pe_callTy hc hg hm hv ha hn hdb he hpl) fun s H Q h => hf.cb h
end
end Dn
namespace Dn
open PySem PySem.Spec PyProof.Rows L2

def sNil : DS := fun en S => .next en S
def sSeq (a b : DS) : DS := fun en S => match a en S with
  | .next en1 S1 => b en1 S1
  | o => o
def sExpr (m : DE) : DS := fun en S => (m en S).out en fun _ S1 => .next en S1
def sRet (m : DE) : DS := fun en S => (m en S).out en fun x S1 => .ret x S1
def sRetN : DS := fun _ S => .ret .non S
def sIf (t : DT) (a b : DS) : DS := fun en S => (t en S).out en fun c S1 => if c = true then a en S1 else b en S1
def sBrk : DS := fun en S => .brk en S
def sCnt : DS := fun en S => .cnt en S
def sBad : DS := fun _ _ => .bad
def fPut (o i x : PV) (S : Sto) : Option Sto := match o with
  | .ref n => match S[n]? with
    | some (.lst xs) => match i with
      | .int k => (ixN xs.length k).map fun j => S.set n (.lst (xs.set j x))
      | _ => none
    | some (.dic kvs) => match pvKey i with
      | some k => if kvs.length < sizeLine then some (S.set n (.dic (dPut kvs k x))) else none
      | none => none
    | _ => none
  | _ => none
def sPut (mo mi mv : DE) : DS := fun en S => (mv en S).out en fun x S1 => (mo en S1).out en fun o S2 => (mi en S2).out en fun i S3 => match fPut o i x S3 with
  | some S4 => .next en S4
  | none => .bad
/-- a target: what it makes of the slots, and which it touches -/
structure Tg where
  f : PV → En → Option En
  sl : List Nat
def gN (i : Nat) : Tg := ⟨fun x en => some (en.set i (some x)), [i]⟩
def gAll : List Nat → List PV → En → Option En
  | [], [], en => some en
  | i :: is, x :: xs, en => gAll is xs (en.set i (some x))
  | _, _, _ => none
def gT (is : List Nat) : Tg := ⟨fun x en => match x with
  | .tup xs => gAll is xs en
  | .pr xs => gAll is xs en
  | _ => none, is⟩
def sAsg (m : DE) (g : Tg) : DS := fun en S => (m en S).out en fun x S1 => match g.f x en with
  | some en1 => .next en1 S1
  | none => .bad
abbrev sSet (i : Nat) (m : DE) : DS := sAsg m (gN i)
def sAug (i : Nat) (f : PV → PV → Sto → Res PV) (m : DE) : DS := fun en S => match en[i]? with
  | some (some x) => (m en S).out en fun y S1 => (f x y S1).out en fun z S2 => .next (en.set i (some z)) S2
  | _ => .bad
def fAddI (x y : PV) (S : Sto) : Res PV := match x, y with
  | .int i, .int j => .ok (.int (i + j)) S
  | _, _ => .bad
/-- what a loop walks: a bound of its turns; none: not told; some none: the end -/
structure Prv where
  n : Nat
  it : Nat → Sto → Option (Option PV)
abbrev DP := En → Sto → Res Prv
def forRun (it : Nat → Sto → Option (Option PV)) (g : Tg) (body : DS) : Nat → Nat → En → Sto → Out
  | 0, _, _, _ => .bad
  | f + 1, i, en, S => match it i S with
    | none => .bad
    | some none => .next en S
    | some (some x) => match g.f x en with
      | none => .bad
      | some en1 => match body en1 S with
        | .next en2 S2 => forRun it g body f (i + 1) en2 S2
        | .cnt en2 S2 => forRun it g body f (i + 1) en2 S2
        | .brk en2 S2 => .next en2 S2
        | .ret x S2 => .ret x S2
        | .exc en2 c f S2 => .exc en2 c f S2
        | .bad => .bad
def sFor (p : DP) (g : Tg) (body : DS) : DS := fun en S => (p en S).out en fun P S1 => forRun P.it g body (P.n + 1) 0 en S1
def whileRun (c : DT) (body : DS) : Nat → En → Sto → Out
  | 0, _, _ => .bad
  | f + 1, en, S => (c en S).out en fun b S1 => if b = true then (match body en S1 with
      | .next en2 S2 => whileRun c body f en2 S2
      | .cnt en2 S2 => whileRun c body f en2 S2
      | .brk en2 S2 => .next en2 S2
      | .ret x S2 => .ret x S2
      | .exc en2 c f S2 => .exc en2 c f S2
      | .bad => .bad) else .next en S1
def wipeP (en : En) : List Nat → En
  | [] => en
  | v :: vs => (wipeP en vs).set v none
def lcRun (it : Nat → Sto → Option (Option PV)) (g : Tg) (tt : DT) (te : DE) (d : Nat) : Nat → Nat → En → Sto → Res PV
  | 0, _, _, _ => .bad
  | f + 1, i, en, S => match it i S with
    | none => .bad
    | some none => .ok (.ref d) S
    | some (some x) => match g.f x en with
      | none => .bad
      | some en1 => match tt en1 S with
        | .ok true S1 => match te en1 S1 with
          | .ok y S2 => match S2[d]? with
            | some (.lst acc) => if acc.length < sizeLine then lcRun it g tt te d f (i + 1) en (S2.set d (.lst (acc ++ [y]))) else .bad
            | _ => .bad
          | _ => .bad
        | .ok false S1 => lcRun it g tt te d f (i + 1) en S1
        | _ => .bad
def eLc (p : DP) (g : Tg) (tt : DT) (te : DE) : DE := fun en S => (p en S).bind fun P S1 => lcRun P.it g tt te S1.length (P.n + 1) 0 (wipeP en g.sl) (S1 ++ [.lst []])
def tYesP : DT := fun _ S => .ok true S
/-- what is walked -/
def fTupP (xs : List PV) : Prv := ⟨xs.length, fun i _ => some xs[i]?⟩
def lstAt (n : Nat) (S : Sto) : Option (List PV) := match S[n]? with
  | some (.lst xs) => some xs
  | _ => none
def fLstP (n : Nat) (len : Nat) : Prv := ⟨len, fun i S => (lstAt n S).map fun xs => xs[i]?⟩
def fIter (x : PV) (S : Sto) : Res Prv := match x with
  | .tup xs => .ok (fTupP xs) S
  | .rol xs => .ok (fTupP xs) S
  | .ref n => match S[n]? with
    | some (.lst xs) => .ok (fLstP n xs.length) S
    | some (.dic kvs) => .ok (fTupP (kvs.map fun p => keyPV p.1)) (S.set n (.fdic kvs))
    | some (.fdic kvs) => .ok (fTupP (kvs.map fun p => keyPV p.1)) S
    | none => .bad
  | _ => .bad
def pIter (m : DE) : DP := fun en S => (m en S).bind fun x S1 => fIter x S1
def fRngP (lo : Int) (n : Nat) : Prv := ⟨n, fun i _ => some (if i < n then some (.int (lo + i)) else none)⟩
def fRange1 (xs : List PV) (S : Sto) : Res Prv := match xs with
  | [.int j] => if -(2 ^ 62) ≤ j ∧ j < 2 ^ 62 then .ok (fRngP 0 j.toNat) S else .bad
  | _ => .bad
def fRange2 (xs : List PV) (S : Sto) : Res Prv := match xs with
  | [.int i, .int j] => if -(2 ^ 62) ≤ i ∧ i < 2 ^ 62 ∧ -(2 ^ 62) ≤ j ∧ j < 2 ^ 62 then .ok (fRngP i (j - i).toNat) S else .bad
  | _ => .bad
def pRange1 (m : DA) : DP := fun en S => (m en S).bind fun xs S1 => fRange1 xs S1
def pRange2 (m : DA) : DP := fun en S => (m en S).bind fun xs S1 => fRange2 xs S1
def fEnumP (n : Nat) (len : Nat) : Prv := ⟨len, fun i S => (lstAt n S).map fun xs => xs[i]?.map fun x => .pr [.int (i : Nat), x]⟩
def fEnum (xs : List PV) (S : Sto) : Res Prv := match xs with
  | [.ref n] => match S[n]? with
    | some (.lst ys) => .ok (fEnumP n ys.length) S
    | _ => .bad
  | _ => .bad
def pEnum (m : DA) : DP := fun en S => (m en S).bind fun xs S1 => fEnum xs S1
def zipAt (xs ys : List PV) (i : Nat) : Option PV := match xs[i]?, ys[i]? with
  | some x, some y => some (.pr [x, y])
  | _, _ => none
def fZip (xs : List PV) (S : Sto) : Res Prv := match xs with
  | [.tup xs, .tup ys] => .ok ⟨xs.length, fun i _ => some (zipAt xs ys i)⟩ S
  | [.ref n, .ref m] => match lstAt n S, lstAt m S with
    | some xs, some _ => .ok ⟨xs.length, fun i S => match lstAt n S, lstAt m S with
      | some xs, some ys => some (zipAt xs ys i)
      | _, _ => none⟩ S
    | _, _ => .bad
  | _ => .bad
def pZip (m : DA) : DP := fun en S => (m en S).bind fun xs S1 => fZip xs S1

section
variable {X : Cx} {ca : Nat → Addr} {W : WX} {a b c e : Expr} {ma mb mc : DE} {ta tb tc : DT} {pos : Pos} {st : Stmt} {rest body orelse : List Stmt} {m1 m2 : DS}
theorem z_nil : GSs X ca W [] sNil := pss_imp pss_nil fun D s H ⟨rh, en, S, he, hs, hp⟩ => hp rh H s Ext.refl he hs
theorem z_cons (h1 : GS X ca W st m1) (h2 : GSs X ca W rest m2) : GSs X ca W (st :: rest) (sSeq m1 m2) := by
  refine pss_imp (pss_cons h1 h2) fun D s H ⟨rh, en, S, he, hs, hp⟩ => ?_
  refine ⟨rh, en, S, he, hs, ?_⟩
  unfold sSeq at hp
  cases q : m1 en S with
  | next en1 S1 =>
    rw [q] at hp
    exact fun rh' H' s' e' he' hs' => ⟨rh', en1, S1, he', hs', PostS.later e' hp⟩
  | ret x S1 => rw [q] at hp; exact hp
  | brk en1 S1 => rw [q] at hp; exact hp
  | cnt en1 S1 => rw [q] at hp; exact hp
  | exc en1 c f S1 => rw [q] at hp; exact hp
  | bad => rw [q] at hp; exact hp
theorem z_one (h1 : GS X ca W st m1) : GSs X ca W [st] m1 := pss_one h1
theorem z_pass : GS X ca W (.Pass pos) sNil := ps_imp ps_pass fun D s H ⟨rh, en, S, he, hs, hp⟩ => hp rh H s Ext.refl he hs
theorem z_doc {x j pos'} : GS X ca W (.Expr (.Constant (.str x) j pos) pos') sNil := ps_imp ps_doc fun D s H ⟨rh, en, S, he, hs, hp⟩ => hp rh H s Ext.refl he hs
theorem z_brk : GS X ca W (.Break pos) sBrk := ps_imp ps_break fun D s H ⟨rh, en, S, he, hs, hp⟩ => hp rh H s Ext.refl he hs
theorem z_cnt : GS X ca W (.Continue pos) sCnt := ps_imp ps_continue fun D s H ⟨rh, en, S, he, hs, hp⟩ => hp rh H s Ext.refl he hs
/-- code that is never come to -/
theorem z_bad : GS X ca W st sBad := ps_imp ps_never fun D s H ⟨rh, en, S, he, hs, hp⟩ => hp
theorem zs_bad : GSs X ca W rest sBad := pss_imp pss_never fun D s H ⟨rh, en, S, he, hs, hp⟩ => hp
theorem z_expr (h : GE X ca W a ma) (hs : swapsWith a none pos.line X.env = pure false := by rfl) : GS X ca W (.Expr a pos) (sExpr ma) := by
  refine ps_imp (ps_expr h hs) fun D s H ⟨rh, en, S, he, hs, hp⟩ => ?_
  exact (PostS.bind he hs hp).mono fun v H1 ⟨rh1, x, S1, e1, he1, hs1, hx1, hp1⟩ => hp1 rh1 H1 s Ext.refl he1 hs1
theorem z_ret (h : GE X ca W a ma) : GS X ca W (.Return (some a) pos) (sRet ma) := by
  refine ps_imp (ps_ret h) fun D s H ⟨rh, en, S, he, hs, hp⟩ => ?_
  exact (PostS.bind he hs hp).mono fun v H1 ⟨rh1, x, S1, e1, he1, hs1, hx1, hp1⟩ => hp1 rh1 H1 v Ext.refl hs1 hx1
theorem z_retN : GS X ca W (.Return none pos) sRetN := ps_imp ps_retN fun D s H ⟨rh, en, S, he, hs, hp⟩ => hp rh H .non Ext.refl hs rfl
theorem z_if (hc : GT X ca W c tc) (ha : GSs X ca W body m1) (hb : GSs X ca W orelse m2) : GS X ca W (.If c body orelse pos) (sIf tc m1 m2) := by
  refine ps_imp (ps_if hc ha hb) fun D s H ⟨rh, en, S, he, hs, hp⟩ => ?_
  refine (PostS.bindT he hs hp).mono fun k H1 ⟨rh1, S1, e1, he1, hs1, hp1⟩ => ?_
  cases k with
  | true => exact ⟨rh1, en, S1, he1, hs1, hp1⟩
  | false => exact ⟨rh1, en, S1, he1, hs1, hp1⟩
/-- what a target promises: the slots as told, none but its own touched -/
def LG (K : PySem.W.Frag) (g : Tg) : TG := fun v s H Q => ∃ rh en x en', ER K H rh en s ∧ VR K H rh x v ∧ g.f x en = some en' ∧ ∀ s', ER K H rh en' s' → (∀ vs, (∀ i ∈ g.sl, i ∈ vs) → wipe s' vs = wipe s vs) → Q s' H
abbrev GG (X : Cx) (e : Expr) (g : Tg) : Prop := PG X e (LG X.K g)
theorem pg_imp {e : Expr} {t t' : TG} (h : PG X e t) (i : ∀ v s H Q, t' v s H Q → t v s H Q) : PG X e t' := ⟨fun pins s σ H v u Q I r q => h.run pins s σ H v u Q I r (i v σ H Q q)⟩
theorem wipe_set_in {s : L2.St} {i : Nat} {v : Option V} : ∀ {vs : List Nat}, i ∈ vs → wipe (s.set i v) vs = wipe s vs
  | [], h => by cases h
  | j :: vs, h => by
    unfold wipe
    by_cases hj : i ∈ vs
    · rw [wipe_set_in hj]
    · have e : i = j := by
        rcases List.mem_cons.mp h with e | e
        · exact e
        · exact absurd e hj
      subst e
      have w : ∀ us : List Nat, i ∉ us → wipe (s.set i v) us = (wipe s us).set i v := by
        intro us
        induction us with
        | nil => intro _; rfl
        | cons u us ih =>
          intro hn
          unfold wipe
          rw [ih (fun z => hn (List.mem_cons_of_mem _ z))]
          exact List.set_comm _ _ (fun z => hn (by rw [z]; exact List.mem_cons_self))
      rw [w vs hj, List.set_set]
theorem g_name {i : Nat} {x : Str} (hN : X.N.Nodup) (hi : X.N[i]? = some x) (hx : Loc X.env.scope x) (hf : X.fn x = true ∨ X.env.scope.names.lookup x = some .local := by first | exact .inl rfl | exact .inr rfl | assumption) : GG X (.Name x pos) (gN i) := by
  refine pg_imp (pg_name hN hi hx hf) fun v s H Q ⟨rh, en, x, en', he, hx, e, q⟩ => ?_
  have e' : en.set i (some x) = en' := Option.some.inj e
  subst e'
  exact q _ (he.set i hx) fun vs h => wipe_set_in (h i (by simp [gN]))
/-- several plain names -/
inductive GNs (X : Cx) : List Expr → List Nat → Prop
  | nil : GNs X [] []
  | cons {x : Str} {pos : Pos} {es : List Expr} {i : Nat} {is : List Nat} (hi : X.N[i]? = some x) (hx : Loc X.env.scope x) (hf : X.fn x = true ∨ X.env.scope.names.lookup x = some .local)
      (hs : (assignEach (.Name x pos :: es) X.env).map (·.2) = assign (.Name x pos) X.env :: (assignEach es X.env).map (·.2)) (r : GNs X es is) : GNs X (.Name x pos :: es) (i :: is)
def LGs (K : PySem.W.Frag) (is : List Nat) : TGs := fun vs s H Q => ∃ rh en xs en', ER K H rh en s ∧ VRs K H rh xs vs ∧ gAll is xs en = some en' ∧ ∀ s', ER K H rh en' s' → (∀ us, (∀ i ∈ is, i ∈ us) → wipe s' us = wipe s us) → Q s' H
theorem pgs_imp {es : List Expr} {t t' : TGs} (h : PGs X es t) (i : ∀ v s H Q, t' v s H Q → t v s H Q) : PGs X es t' := ⟨fun pins s σ H v u Q I r q => h.run pins s σ H v u Q I r (i v σ H Q q)⟩
theorem gns_ok (hN : X.N.Nodup) : ∀ {es : List Expr} {is : List Nat}, GNs X es is → PGs X es (LGs X.K is) := by
  intro es is h
  induction h with
  | nil =>
    refine pgs_imp pgs_nil fun vs s H Q ⟨rh, en, xs, en', he, hx, e, q⟩ => ?_
    cases xs with
    | nil =>
      cases hx
      have e' : en = en' := Option.some.inj e
      subst e'
      exact ⟨rfl, q s he fun _ _ => rfl⟩
    | cons _ _ => cases e
  | @cons x pos es i is hi hx hf hs r ih =>
    refine pgs_imp (pgs_cons (pg_name hN hi hx hf) ih hs) fun vs s H Q ⟨rh, en, xs, en', he, hv, e, q⟩ => ?_
    cases xs with
    | nil => cases e
    | cons y ys =>
      obtain ⟨v, r', rfl, h1, h2⟩ := hv
      refine ⟨v, r', rfl, ?_⟩
      refine ⟨rh, en.set i (some y), ys, en', he.set i h1, h2, e, fun s' he' hw => q s' he' fun us hu => ?_⟩
      rw [hw us fun j hj => hu j (List.mem_cons_of_mem _ hj)]
      exact wipe_set_in (hu i List.mem_cons_self)
theorem gAll_len : ∀ {is : List Nat} {xs : List PV} {en en' : En}, gAll is xs en = some en' → xs.length = is.length
  | [], [], _, _, _ => rfl
  | [], _ :: _, _, _, h => by cases h
  | _ :: _, [], _, _, h => by cases h
  | i :: is, x :: xs, en, en', h => by
    rw [List.length_cons, List.length_cons, gAll_len (is := is) h]
theorem g_tup {es : List Expr} {k : Nat} {is : List Nat} (hN : X.N.Nodup) (hc : X.calm = true) (h : GNs X es is) (hn : (assignEach es X.env).length = is.length := by rfl) (hst : (assignEach es X.env).findIdx? (·.1) = none := by rfl) : GG X (.Tuple es k pos) (gT is) := by
  refine pg_imp (pg_tup hc (gns_ok hN h) hn hst) fun v s H Q ⟨rh, en, x, en', he, hx, e, q⟩ => ?_
  cases x with
  | tup xs =>
    obtain ⟨a, vs, rfl, ha, hv⟩ := hx
    exact ⟨a, vs, rfl, ha.sq, by rw [← hv.length]; exact gAll_len e, rh, en, xs, en', he, hv, e, q⟩
  | pr xs =>
    obtain ⟨a, vs, rfl, ha, hv⟩ := hx
    exact ⟨a, vs, rfl, ha, by rw [← hv.length]; exact gAll_len e, rh, en, xs, en', he, hv, e, q⟩
  | _ => cases e
theorem asg_fin {tg : Expr} {g : Tg} (h : GE X ca W a ma) (D : Ends) (s : L2.St) (H : Hp) (q : LS X.K ca W (sAsg ma g) D s H) : tAsg (LE X.K ca W ma) (LG X.K g) D s H := by
  obtain ⟨rh, en, S, he, hs, hp⟩ := q
  refine (PostS.bind he hs hp).mono fun v H1 ⟨rh1, x, S1, e1, he1, hs1, hx1, hp1⟩ => ?_
  cases q : g.f x en with
  | none => rw [q] at hp1; exact hp1.elim
  | some en1 =>
    rw [q] at hp1
    exact ⟨rh1, en, x, en1, he1, hx1, q, fun s' he' _ => hp1 rh1 H1 s' Ext.refl he' hs1⟩
theorem z_asg {tg : Expr} {g : Tg} (h : GE X ca W a ma) (hg : GG X tg g) (hs : swapsWithSole [tg] a pos.line X.env = pure false := by rfl) (hw : swappedStores [tg] a X.env = pure none := by rfl)
    (h1 : (assignEach [tg] X.env).map (·.2) = [assign tg X.env] := by rfl) : GS X ca W (.Assign [tg] a pos) (sAsg ma g) :=
  ps_imp (ps_asg h hg hs hw h1) fun D s H q => asg_fin (tg := tg) h D s H q
theorem z_set {i : Nat} {x : Str} {pos' : Pos} (hN : X.N.Nodup) (hi : X.N[i]? = some x) (hx : Loc X.env.scope x) (h : GE X ca W a ma) (hs : swapsWith a (some (.Name x pos')) pos.line X.env = pure false := by rfl) (hf : X.fn x = true ∨ X.env.scope.names.lookup x = some .local := by first | exact .inl rfl | exact .inr rfl | assumption) :
    GS X ca W (.Assign [.Name x pos'] a pos) (sSet i ma) := by
  refine ps_imp (ps_set hN hi hx h hs hf) fun D s H q => ?_
  obtain ⟨rh, en, S, he, hs, hp⟩ := q
  exact (PostS.bind he hs hp).mono fun v H1 ⟨rh1, x, S1, e1, he1, hs1, hx1, hp1⟩ => hp1 rh1 H1 _ Ext.refl (he1.set i hx1) hs1
theorem z_aug {i : Nat} {x : Str} {op : Operator} {ti : TIp} {f : PV → PV → Sto → Res PV} {pos' : Pos} (ho : PIp X op ti) (hf2 : OpD X.K ca f ti) (hN : X.N.Nodup) (hi : X.N[i]? = some x) (hx : Loc X.env.scope x) (h : GE X ca W a ma) (hf : X.fn x = true ∨ X.env.scope.names.lookup x = some .local := by first | exact .inl rfl | exact .inr rfl | assumption) :
    GS X ca W (.AugAssign (.Name x pos') op a pos) (sAug i f ma) := by
  refine ps_imp (ps_aug hN hi hx h ho hf) fun D s H ⟨rh, en, S, he, hs, hp⟩ => ?_
  unfold sAug at hp
  split at hp
  · rename_i x e
    obtain ⟨v, e1, hv⟩ := he.at_ i x e
    refine ⟨v, e1, ?_⟩
    refine (PostS.bind he hs hp).mono fun w H1 ⟨rh1, y, S1, e1, he1, hs1, hy1, hp1⟩ => ?_
    refine hf2 W s rh1 H1 S1 x y v w _ hs1 (VR.ext e1 _ _ hv) hy1 ?_
    cases q : f x y S1 with
    | ok z S2 => rw [q] at hp1; exact fun rh2 H2 u e2 hs2 hz => hp1 rh2 H2 _ e2 ((he1.ext e2).set i hz) hs2
    | exc c f' S2 => rw [q] at hp1; exact fun rh2 H2 d e2 a b => hp1 rh2 H2 s d e2 (he1.ext e2) a b
    | bad => rw [q] at hp1; exact hp1
  · exact hp.elim
theorem ip_addA : PIp X .Add (rI0 fun i j => .int (i + j)) := iop_add
theorem z_augAdd {i : Nat} {x : Str} {pos' : Pos} (hN : X.N.Nodup) (hi : X.N[i]? = some x) (hx : Loc X.env.scope x) (h : GE X ca W a ma) (hf : X.fn x = true ∨ X.env.scope.names.lookup x = some .local := by first | exact .inl rfl | exact .inr rfl | assumption) :
    GS X ca W (.AugAssign (.Name x pos') .Add a pos) (sAug i fAddI ma) := z_aug iop_add (fun W s rh H S x y v w Q hs hx hy h => by
  unfold fAddI at h
  split at h
  · cases hx; cases hy
    exact ⟨_, _, rfl, rfl, h.same hs rfl⟩
  · exact h.elim) hN hi hx h hf
def rDPutS : TSet := fun o i v H Q => ∃ a H4, o = .ref a ∧ DPut H a i v H4 ∧ Q H4
theorem set_dict (hu : X.A.units + 1 < cLine) : PSet X rDPutS := by
  intro pins s σ H o i v ov iv u Q I r1 r2 r3 h
  obtain ⟨a, H4, rfl, g, q⟩ := h
  cases r1
  exact d_setItem hu I g r2 r3 fun s4 I4 => ⟨H4, I4, q⟩
theorem PSet.or {t t' : TSet} (h : PSet X t) (h' : PSet X t') : PSet X (fun o i v H Q => t o i v H Q ∨ t' o i v H Q) := by
  intro pins s σ H o i v ov iv u Q I r1 r2 r3 q
  rcases q with q | q
  · exact h pins s σ H o i v ov iv u Q I r1 r2 r3 q
  · exact h' pins s σ H o i v ov iv u Q I r1 r2 r3 q
theorem put_ok {K : PySem.W.Frag} {H : Hp} {rh : List Addr} {S S' : Sto} {o i x : PV} {ov iv v : V} {Q : Hp → Prop} (hs : SR K H rh S) (ho : VR K H rh o ov) (hi : VR K H rh i iv) (hx : VR K H rh x v) (e : fPut o i x S = some S')
    (q : ∀ H', Ext K rh H rh H' → SR K H' rh S' → Q H') : rSetL ov iv v H Q ∨ rDPutS ov iv v H Q := by
  unfold fPut at e
  split at e
  · rename_i n
    split at e
    · rename_i xs en
      obtain ⟨a, vs, rfl, ha, hH, hv⟩ := hs.lst ho en
      split at e
      · cases hi
        rename_i k
        cases ek : ixN xs.length k with
        | none => rw [ek] at e; cases e
        | some j =>
          rw [ek] at e
          have e' : S.set n (.lst (xs.set j x)) = S' := Option.some.inj e
          subst e'
          refine .inl ⟨a, vs, k, j, rfl, rfl, hH, by rw [← hv.length]; exact ek, ?_⟩
          have ex : Ext K rh H rh (upd H a (.lst (vs.set j v))) := Ext.write hH (.inl ⟨_, rfl⟩)
          exact q _ ex (hs.write ha hH (.inl ⟨_, rfl⟩) ⟨_, upd_same, VRs.ext ex _ _ (hv.set hx j)⟩)
      · cases e
    · rename_i kvs en
      obtain ⟨a, ws, rfl, ha, hH, hw⟩ := hs.dic ho en
      split at e
      · rename_i k ek
        have ev := key_of hi ek
        subst ev
        split at e
        · rename_i hl
          have e' : S.set n (.dic (dPut kvs k x)) = S' := Option.some.inj e
          subst e'
          refine .inr ⟨a, _, rfl, DPut.k hH (by rw [← hw.length]; exact hl), ?_⟩
          have ex : Ext K rh H rh (upd H a (.dK (putK ws k v))) := Ext.write hH (.inr ⟨_, rfl⟩)
          exact q _ ex (hs.write ha hH (.inr ⟨_, rfl⟩) ⟨_, upd_same, KRs.ext ex _ _ (hw.put k hx)⟩)
        · cases e
      · cases e
    · cases e
  · cases e
theorem z_put (hu : X.A.units + 100 < cLine) {o i : Expr} {mo mi : DE} {tpos : Pos} (ho : GE X ca W o mo) (hi : GE X ca W i mi) (h : GE X ca W a ma)
    (hs : swapsWithSole [.Subscript o i tpos] a pos.line X.env = pure false := by rfl) (hw : swappedStores [.Subscript o i tpos] a X.env = pure none := by rfl)
    (h1 : (assignEach [.Subscript o i tpos] X.env).map (·.2) = [assign (.Subscript o i tpos) X.env] := by rfl)
    (hv : ∀ v, assign (.Subscript o i tpos) X.env v = (do
      let ov ← holding [v] (eval o X.env)
      let iv ← holding [v, ov] (eval i X.env)
      standAt tpos
      holding [v, ov, iv] (setItem ov iv v)
      release [v, ov, iv] []) := by intro _; rfl) : GS X ca W (.Assign [.Subscript o i tpos] a pos) (sPut mo mi ma) := by
  refine ps_imp (ps_asg h (pg_sub ho hi (PSet.or set_list (set_dict (big1 hu))) hv) hs hw h1) fun D s H ⟨rh, en, S, he, hs, hp⟩ => ?_
  refine (PostS.bind he hs hp).mono fun v H1 ⟨rh1, x, S1, e1, he1, hs1, hx1, hp1⟩ => ?_
  refine (PostS.bind he1 hs1 hp1).mono fun ov H2 ⟨rh2, o', S2, e2, he2, hs2, ho2, hp2⟩ => ?_
  refine (PostS.bind he2 hs2 hp2).mono fun iv H3 ⟨rh3, i', S3, e3, he3, hs3, hi3, hp3⟩ => ?_
  cases q : fPut o' i' x S3 with
  | none => rw [q] at hp3; exact hp3.elim
  | some S4 =>
    rw [q] at hp3
    exact put_ok hs3 (VR.ext e3 _ _ ho2) hi3 (VR.ext (e2.trans e3) _ _ hx1) q fun H' e' hs' => hp3 rh3 H' s e' (he3.ext e') hs'
end

/-- an iterator of the layer walks as the plain one -/
def ItOk (K : PySem.W.Frag) (J : It) (it : Nat → Sto → Option (Option PV)) (rh0 : List Addr) (H0 : Hp) : Prop :=
  ∀ (i : Nat) (rh : List Addr) (H : Hp) (S : Sto), Ext K rh0 H0 rh H → SR K H rh S → match it i S with
    | none => True
    | some none => J.stop i H
    | some (some x) => J.go i H ∧ ∀ v H', J.yld i H v H' → Ext K rh H rh H' ∧ SR K H' rh S ∧ VR K H' rh x v
def PostI (K : PySem.W.Frag) (ca : Nat → Addr) (W : WX) (s : L2.St) (rh : List Addr) (H : Hp) (r : Res Prv) (R : It → Hp → Prop) : Prop := match r with
  | .ok P S => ∀ rh' H' J, Ext K rh H rh' H' → SR K H' rh' S → ItOk K J P.it rh' H' → R J H'
  | .exc c f S => ∀ rh' H' d, Ext K rh H rh' H' → SR K H' rh' S → XR K H' rh' f d → W (.ref (ca c)) d s H'
  | .bad => False
def LI (K : PySem.W.Frag) (ca : Nat → Addr) (W : WX) (m : DP) : TI := fun s H R => ∃ rh en S, ER K H rh en s ∧ SR K H rh S ∧ PostI K ca W s rh H (m en S) R
section
variable {X : Cx} {ca : Nat → Addr} {W : WX} {a b c e tg iter : Expr} {ma mb mc : DE} {ta tb tc : DT} {pos : Pos} {st : Stmt} {rest body orelse : List Stmt} {m1 m2 : DS} {m : DA} {mp : DP} {g : Tg}
abbrev GI (X : Cx) (ca : Nat → Addr) (W : WX) (tg iter : Expr) (m : DP) : Prop := PI X tg iter (LI X.K ca W m)
theorem pi_imp {t t' : TI} (h : PI X tg iter t) (i : ∀ s H R, t' s H R → t s H R) : PI X tg iter t' := ⟨fun pins s σ H R I q => h.run pins s σ H R I (i σ H R q)⟩
theorem PostI.later {K : PySem.W.Frag} {s : L2.St} {rh rh1 : List Addr} {H H1 : Hp} (e : Ext K rh H rh1 H1) {r : Res Prv} {R : It → Hp → Prop} (h : PostI K ca W s rh H r R) : PostI K ca W s rh1 H1 r R := by
  cases r with
  | ok x S => exact fun rh' H' J e' a b => h rh' H' J (e.trans e') a b
  | exc c f S => exact fun rh' H' d e' a b => h rh' H' d (e.trans e') a b
  | bad => exact h
theorem PostI.mono {K : PySem.W.Frag} {s : L2.St} {rh : List Addr} {H : Hp} {r : Res Prv} {R R' : It → Hp → Prop} (h : PostI K ca W s rh H r R) (i : ∀ J H', R J H' → R' J H') : PostI K ca W s rh H r R' := by
  cases r with
  | ok x S => exact fun rh' H' J e' a b => i _ _ (h rh' H' J e' a b)
  | exc c f S => exact h
  | bad => exact h
theorem PostI.bind {K : PySem.W.Frag} {s : L2.St} {rh : List Addr} {H : Hp} {md : DE} {en : En} {S : Sto} {k : PV → Sto → Res Prv} {R : It → Hp → Prop} (he : ER K H rh en s) (hs : SR K H rh S) (h : PostI K ca W s rh H ((md en S).bind k) R) :
    LE K ca W md s H fun v H1 => ∃ rh1 x S1, Ext K rh H rh1 H1 ∧ ER K H1 rh1 en s ∧ SR K H1 rh1 S1 ∧ VR K H1 rh1 x v ∧ PostI K ca W s rh1 H1 (k x S1) R := by
  refine ⟨rh, en, S, he, hs, ?_⟩
  cases q : md en S with
  | ok x S1 =>
    rw [q] at h
    exact fun rh1 H1 v e a b => ⟨rh1, x, S1, e, he.ext e, a, b, PostI.later e h⟩
  | exc c f S1 => rw [q] at h; exact h
  | bad => rw [q] at h; exact h
theorem PostI.bindA {K : PySem.W.Frag} {s : L2.St} {rh : List Addr} {H : Hp} {md : DA} {en : En} {S : Sto} {k : List PV → Sto → Res Prv} {R : It → Hp → Prop} (he : ER K H rh en s) (hs : SR K H rh S) (h : PostI K ca W s rh H ((md en S).bind k) R) :
    LA K ca W md s H fun vs H1 => ∃ rh1 xs S1, Ext K rh H rh1 H1 ∧ ER K H1 rh1 en s ∧ SR K H1 rh1 S1 ∧ VRs K H1 rh1 xs vs ∧ PostI K ca W s rh1 H1 (k xs S1) R := by
  refine ⟨rh, en, S, he, hs, ?_⟩
  cases q : md en S with
  | ok x S1 =>
    rw [q] at h
    exact fun rh1 H1 v e a b => ⟨rh1, x, S1, e, he.ext e, a, b, PostI.later e h⟩
  | exc c f S1 => rw [q] at h; exact h
  | bad => rw [q] at h; exact h
/-- for -/
theorem for_post {K : PySem.W.Frag} {J : It} {it : Nat → Sto → Option (Option PV)} {rh0 : List Addr} {H0 : Hp} (hj : ItOk K J it rh0 H0) {D : Ends} {s : L2.St} {en : En} {S : Sto} {n : Nat} (he : ER K H0 rh0 en s) (hs : SR K H0 rh0 S)
    (h : PostS K ca W rh0 H0 (forRun it g m1 n 0 en S) D) :
    ∃ Wi : Nat → Nat → L2.St → Hp → Prop, (∃ m, Wi 0 m s H0) ∧ ∀ i m s H, Wi i m s H →
      (J.stop i H ∧ D.nx s H) ∨ (J.go i H ∧ ∃ N : L2.St → Hp → Prop, (∀ s' H', N s' H' → ∃ m', m' < m ∧ Wi (i + 1) m' s' H') ∧ ∀ v H', J.yld i H v H' → LG K g v s H' fun s2 H2 => LS K ca W m1 { D with nx := N, ct := N, bk := D.nx } s2 H2) := by
  refine ⟨fun i f s H => ∃ rh en S, Ext K rh0 H0 rh H ∧ ER K H rh en s ∧ SR K H rh S ∧ PostS K ca W rh H (forRun it g m1 f i en S) D, ⟨n, rh0, en, S, Ext.refl, he, hs, h⟩, ?_⟩
  rintro i f s H ⟨rh, en, S, e, he, hs, h⟩
  cases f with
  | zero => exact h.elim
  | succ f =>
    have hi := hj i rh H S e hs
    unfold forRun at h
    cases q : it i S with
    | none => rw [q] at h; exact h.elim
    | some o =>
      rw [q] at h hi
      cases o with
      | none => exact .inl ⟨hi, h rh H s Ext.refl he hs⟩
      | some x =>
        obtain ⟨hgo, hy⟩ := hi
        cases q1 : g.f x en with
        | none => simp only [q1] at h; exact h.elim
        | some en1 =>
          simp only [q1] at h
          refine .inr ⟨hgo, fun s H => ∃ rh en S, Ext K rh0 H0 rh H ∧ ER K H rh en s ∧ SR K H rh S ∧ PostS K ca W rh H (forRun it g m1 f (i + 1) en S) D, fun s' H' z => ⟨f, Nat.lt_succ_self f, z⟩, fun v H' hv => ?_⟩
          obtain ⟨ex, hs', hx⟩ := hy v H' hv
          refine ⟨rh, en, x, en1, he.ext ex, hx, q1, fun s' he' _ => ⟨rh, en1, S, he', hs', ?_⟩⟩
          replace h := PostS.later ex h
          cases q2 : m1 en1 S with
          | next en2 S2 => simp only [q2] at h; exact fun rh2 H2 s2 e2 a b => ⟨rh2, en2, S2, (e.trans ex).trans e2, a, b, PostS.later e2 h⟩
          | cnt en2 S2 => simp only [q2] at h; exact fun rh2 H2 s2 e2 a b => ⟨rh2, en2, S2, (e.trans ex).trans e2, a, b, PostS.later e2 h⟩
          | brk en2 S2 => simp only [q2] at h; exact h
          | ret y S2 => simp only [q2] at h; exact h
          | exc en2 c f' S2 => simp only [q2] at h; exact h
          | bad => simp only [q2] at h; exact h
theorem z_for (hp : PassesOwn (model X.prog X.w) X.A X.env X.xe) (hc : X.calm = true) (hi : GI X ca W tg iter mp) (hg : GG X tg g) (hb : GSs X ca W body m1) (hs : ∀ x, foldedSetIterable iter X.env x = pure x := by intro _; rfl) : GS X ca W (.For tg iter body [] pos) (sFor mp g m1) := by
  refine ps_imp (ps_for hp hc hi hg hb hs) fun D s H ⟨rh, en, S, he, hs, h⟩ => ?_
  refine ⟨rh, en, S, he, hs, ?_⟩
  unfold sFor at h
  cases q : mp en S with
  | ok P S1 => rw [q] at h; exact fun rh' H' J e a hj => for_post hj (he.ext e) a (PostS.later e h)
  | exc c f S1 => rw [q] at h; exact fun rh' H' d e a b => h rh' H' s d e (he.ext e) a b
  | bad => rw [q] at h; exact h
theorem while_post {K : PySem.W.Frag} {D : Ends} {s : L2.St} {H : Hp} {n : Nat} (h : LS K ca W (whileRun tc m1 n) D s H) : tWhile (LT K ca W tc) (LS K ca W m1) D s H := by
  refine ⟨fun f s H => LS K ca W (whileRun tc m1 f) D s H, ⟨n, h⟩, ?_⟩
  rintro f s H ⟨rh, en, S, he, hs, h⟩
  cases f with
  | zero => exact h.elim
  | succ f =>
    unfold whileRun at h
    refine (PostS.bindT he hs h).mono fun k H1 ⟨rh1, S1, e1, he1, hs1, hp1⟩ => ?_
    cases k with
    | false => exact hp1 rh1 H1 s Ext.refl he1 hs1
    | true =>
      refine iteT ⟨fun s H => LS K ca W (whileRun tc m1 f) D s H, fun s' H' z => ⟨f, Nat.lt_succ_self f, z⟩, rh1, en, S1, he1, hs1, ?_⟩
      simp only [if_true] at hp1
      cases q2 : m1 en S1 with
      | next en2 S2 => rw [q2] at hp1; exact fun rh2 H2 s2 e2 a b => ⟨rh2, en2, S2, a, b, PostS.later e2 hp1⟩
      | cnt en2 S2 => rw [q2] at hp1; exact fun rh2 H2 s2 e2 a b => ⟨rh2, en2, S2, a, b, PostS.later e2 hp1⟩
      | brk en2 S2 => rw [q2] at hp1; exact hp1
      | ret y S2 => rw [q2] at hp1; exact hp1
      | exc en2 c f' S2 => rw [q2] at hp1; exact hp1
      | bad => rw [q2] at hp1; exact hp1
theorem z_while {n : Nat} (hp : PassesOwn (model X.prog X.w) X.A X.env X.xe) (hc : GT X ca W c tc) (hb : GSs X ca W body m1) : GS X ca W (.While c body [] pos) (whileRun tc m1 n) :=
  ps_imp (ps_while hp hc hb) fun _ _ _ h => while_post h
end
end Dn
namespace Dn
open PySem PySem.Spec PyProof.Rows L2
section
variable {K : PySem.W.Frag} {H H0 : Hp} {rh rh0 : List Addr} {S : Sto}
theorem lstAt_of {n : Nat} {a : Addr} {xs : List PV} (hs : SR K H rh S) (ha : rh[n]? = some a) (e : lstAt n S = some xs) : ∃ vs, SqL K H a vs ∧ VRs K H rh xs vs := by
  unfold lstAt at e
  split at e
  · rename_i q
    cases e
    obtain ⟨b, vs, _, hb, h1, h2⟩ := hs.lst (v := .ref a) ⟨a, rfl, ha⟩ q
    rw [ha] at hb; cases hb
    exact ⟨vs, SqL.of h1, h2⟩
  · cases e
theorem VRs.none_of {xs : List PV} {vs : List V} {i : Nat} (h : VRs K H rh xs vs) (e : xs[i]? = none) : vs.length ≤ i := by
  rw [← h.length]; exact List.getElem?_eq_none_iff.mp e
theorem it_list {n : Nat} {a : Addr} {len : Nat} (ha : rh0[n]? = some a) : ItOk K (Itl K a) (fLstP n len).it rh0 H0 := by
  intro i rh H S e hs
  show match (lstAt n S).map (fun xs => xs[i]?) with | none => True | some none => _ | some (some x) => _
  cases q : lstAt n S with
  | none => trivial
  | some xs =>
    obtain ⟨vs, h1, h2⟩ := lstAt_of hs (e.get ha) q
    cases qx : xs[i]? with
    | none => simp only [Option.map_some, qx]; exact ⟨vs, h1, h2.none_of qx⟩
    | some x =>
      simp only [Option.map_some, qx]
      obtain ⟨v, g1, g2⟩ := h2.get qx
      refine ⟨⟨vs, v, h1, g1⟩, fun w H' hw => ?_⟩
      obtain ⟨rfl, hv⟩ := hw
      have ew : v = w := Option.some.inj (g1.symm.trans (hv vs h1))
      subst ew
      exact ⟨Ext.refl, hs, g2⟩
theorem it_tup {a : Addr} {xs : List PV} {vs : List V} (h1 : SqT K H0 a vs) (h2 : VRs K H0 rh0 xs vs) : ItOk K (Itt K a) (fTupP xs).it rh0 H0 := by
  intro i rh H S e hs
  show match some xs[i]? with | none => True | some none => _ | some (some x) => _
  have h1' := e.tups _ _ h1
  have h2' := VRs.ext e _ _ h2
  cases qx : xs[i]? with
  | none => exact ⟨vs, h1', h2'.none_of qx⟩
  | some x =>
    obtain ⟨v, g1, g2⟩ := h2'.get qx
    refine ⟨⟨vs, v, h1', g1⟩, fun w H' hw => ?_⟩
    obtain ⟨rfl, hv⟩ := hw
    have ew : v = w := Option.some.inj (g1.symm.trans (hv vs h1'))
    subst ew
    exact ⟨Ext.refl, hs, g2⟩
theorem it_rol {a : Addr} {xs : List PV} {vs : List V} (h1 : SqR K H0 a vs) (h2 : VRs K H0 rh0 xs vs) : ItOk K (Itl K a) (fTupP xs).it rh0 H0 := by
  intro i rh H S e hs
  show match some xs[i]? with | none => True | some none => _ | some (some x) => _
  have h1' : SqL K H a vs := by
    rcases h1 with ⟨o, h⟩ | h
    · exact .inl (.inr ⟨o, e.frzs _ _ _ h⟩)
    · exact .inr h
  have h2' := VRs.ext e _ _ h2
  cases qx : xs[i]? with
  | none => exact ⟨vs, h1', h2'.none_of qx⟩
  | some x =>
    obtain ⟨v, g1, g2⟩ := h2'.get qx
    refine ⟨⟨vs, v, h1', g1⟩, fun w H' hw => ?_⟩
    obtain ⟨rfl, hv⟩ := hw
    have ew : v = w := Option.some.inj (g1.symm.trans (hv vs h1'))
    subst ew
    exact ⟨Ext.refl, hs, g2⟩
theorem VR_key (k : Key) : VR K H rh (keyPV k) (kV k) := by cases k <;> rfl
theorem KRs.get : ∀ {kvs : List (Key × PV)} {ws : List (Key × V)} {i : Nat} {p : Key × PV}, KRs K H rh kvs ws → kvs[i]? = some p → ∃ v, ws[i]? = some (p.1, v) ∧ VR K H rh p.2 v
  | [], _, _, _, h, e => by simp at e
  | q :: kvs, ws, 0, p, h, e => by
    obtain ⟨v, r, rfl, h1, h2⟩ := h
    have e' : q = p := by simpa using e
    subst e'
    exact ⟨v, rfl, h1⟩
  | q :: kvs, ws, i + 1, p, h, e => by
    obtain ⟨v, r, rfl, h1, h2⟩ := h
    obtain ⟨u, a, b⟩ := KRs.get (i := i) h2 (by simpa using e)
    exact ⟨u, by simpa using a, b⟩
theorem it_keys {d : Addr} {o : Obj} {kvs : List (Key × PV)} {ws : List (Key × V)} (h1 : H0 d = some (.frz o (.dK ws))) (h2 : KRs K H0 rh0 kvs ws) : ItOk K (Itk d o ws) (fTupP (kvs.map fun p => keyPV p.1)).it rh0 H0 := by
  intro i rh H S e hs
  show match some (kvs.map fun p => keyPV p.1)[i]? with | none => True | some none => _ | some (some x) => _
  have h1' := e.frzs _ _ _ h1
  rw [List.getElem?_map]
  cases qx : kvs[i]? with
  | none => exact ⟨h1', by rw [← h2.length]; exact List.getElem?_eq_none_iff.mp qx⟩
  | some p =>
    obtain ⟨v, g1, g2⟩ := h2.get qx
    refine ⟨⟨h1', (List.getElem?_eq_some_iff.mp g1).1⟩, fun w H' hw => ?_⟩
    obtain ⟨rfl, k, v', g3, rfl⟩ := hw
    rw [g1] at g3
    cases g3
    exact ⟨Ext.refl, hs, VR_key p.1⟩
theorem it_rng {lo : Int} {n : Nat} : ItOk K (Itr lo n) (fRngP lo n).it rh0 H0 := by
  intro i rh H S e hs
  show match some (if i < n then some (PV.int (lo + i)) else none) with | none => True | some none => _ | some (some x) => _
  by_cases c : i < n
  · rw [if_pos c]
    refine ⟨c, fun w H' hw => ?_⟩
    obtain ⟨rfl, rfl⟩ := hw
    exact ⟨Ext.refl, hs, rfl⟩
  · rw [if_neg c]
    exact Nat.le_of_not_lt c
theorem it_enum {n : Nat} {a : Addr} {len : Nat} (ha : rh0[n]? = some a) : ItOk K (Ite K a) (fEnumP n len).it rh0 H0 := by
  intro i rh H S e hs
  show match (lstAt n S).map (fun xs => xs[i]?.map fun x => PV.pr [.int (i : Nat), x]) with | none => True | some none => _ | some (some x) => _
  cases q : lstAt n S with
  | none => trivial
  | some xs =>
    obtain ⟨vs, h1, h2⟩ := lstAt_of hs (e.get ha) q
    cases qx : xs[i]? with
    | none => simp only [Option.map_some, qx, Option.map_none]; exact ⟨vs, h1, h2.none_of qx⟩
    | some x =>
      simp only [Option.map_some, qx]
      obtain ⟨v, g1, g2⟩ := h2.get qx
      refine ⟨⟨vs, v, h1, g1⟩, fun w H' hw => ?_⟩
      obtain ⟨T, y, rfl, hT, rfl, hv⟩ := hw
      have ew : v = y := Option.some.inj (g1.symm.trans (hv vs h1))
      subst ew
      exact ⟨Ext.tup hT, hs.tup hT, T, _, rfl, .inl (.inl upd_same), _, _, rfl, rfl, _, _, rfl, VR.ext (Ext.tup hT) _ _ g2, rfl⟩
theorem zip_none {xs ys : List PV} {i : Nat} (e : zipAt xs ys i = none) : xs[i]? = none ∨ ys[i]? = none := by
  unfold zipAt at e
  split at e
  · cases e
  · rename_i n
    cases q : xs[i]? with
    | none => exact .inl rfl
    | some x =>
      cases q2 : ys[i]? with
      | none => exact .inr rfl
      | some y => exact absurd q2 (n x y q)
theorem zip_some {xs ys : List PV} {i : Nat} {z : PV} (e : zipAt xs ys i = some z) : ∃ x y, z = .pr [x, y] ∧ xs[i]? = some x ∧ ys[i]? = some y := by
  unfold zipAt at e
  split at e
  · rename_i x y q1 q2
    cases e
    exact ⟨x, y, rfl, q1, q2⟩
  · cases e
theorem it_zipT {a b : Addr} {xs ys : List PV} {vs ws : List V} (h1 : SqT K H0 a vs) (h2 : VRs K H0 rh0 xs vs) (k1 : SqT K H0 b ws) (k2 : VRs K H0 rh0 ys ws) : ItOk K (RZ.ItzT K a b) (fun i _ => some (zipAt xs ys i)) rh0 H0 := by
  intro i rh H S e hs
  have h1' := e.tups _ _ h1
  have h2' := VRs.ext e _ _ h2
  have k1' := e.tups _ _ k1
  have k2' := VRs.ext e _ _ k2
  cases qx : zipAt xs ys i with
  | none =>
    simp only [qx]
    refine ⟨vs, ws, h1', k1', ?_⟩
    rcases zip_none qx with q | q
    · exact .inl (h2'.none_of q)
    · exact .inr (k2'.none_of q)
  | some z =>
    simp only [qx]
    obtain ⟨x, y, rfl, ex, ey⟩ := zip_some qx
    obtain ⟨v, g1, g2⟩ := h2'.get ex
    obtain ⟨u, g3, g4⟩ := k2'.get ey
    refine ⟨⟨vs, ws, v, u, h1', k1', g1, g3⟩, fun w H' hw => ?_⟩
    obtain ⟨T, v', u', rfl, hT, rfl, hv, hu⟩ := hw
    have ev : v = v' := Option.some.inj (g1.symm.trans (hv vs h1'))
    have eu : u = u' := Option.some.inj (g3.symm.trans (hu ws k1'))
    subst ev eu
    exact ⟨Ext.tup hT, hs.tup hT, T, _, rfl, .inl (.inl upd_same), _, _, rfl, VR.ext (Ext.tup hT) _ _ g2, _, _, rfl, VR.ext (Ext.tup hT) _ _ g4, rfl⟩
theorem it_zipL {n m : Nat} {a b : Addr} (ha : rh0[n]? = some a) (hb : rh0[m]? = some b) : ItOk K (Itz K a b) (fun i S => match lstAt n S, lstAt m S with
    | some xs, some ys => some (zipAt xs ys i)
    | _, _ => none) rh0 H0 := by
  intro i rh H S e hs
  cases q1 : lstAt n S with
  | none => simp only [q1]
  | some xs =>
    cases q2 : lstAt m S with
    | none => simp only [q1, q2]
    | some ys =>
      simp only [q1, q2]
      obtain ⟨vs, h1', h2'⟩ := lstAt_of hs (e.get ha) q1
      obtain ⟨ws, k1', k2'⟩ := lstAt_of hs (e.get hb) q2
      cases qx : zipAt xs ys i with
      | none =>
        simp only
        refine ⟨vs, ws, h1', k1', ?_⟩
        rcases zip_none qx with q | q
        · exact .inl (h2'.none_of q)
        · exact .inr (k2'.none_of q)
      | some z =>
        simp only
        obtain ⟨x, y, rfl, ex, ey⟩ := zip_some qx
        obtain ⟨v, g1, g2⟩ := h2'.get ex
        obtain ⟨u, g3, g4⟩ := k2'.get ey
        refine ⟨⟨vs, ws, v, u, h1', k1', g1, g3⟩, fun w H' hw => ?_⟩
        obtain ⟨T, v', u', rfl, hT, rfl, hv, hu⟩ := hw
        have ev : v = v' := Option.some.inj (g1.symm.trans (hv vs h1'))
        have eu : u = u' := Option.some.inj (g3.symm.trans (hu ws k1'))
        subst ev eu
        exact ⟨Ext.tup hT, hs.tup hT, T, _, rfl, .inl (.inl upd_same), _, _, rfl, VR.ext (Ext.tup hT) _ _ g2, _, _, rfl, VR.ext (Ext.tup hT) _ _ g4, rfl⟩
end
section
variable {X : Cx} {ca : Nat → Addr} {W : WX} {a b c e tg iter : Expr} {ma mb mc : DE} {ta tb tc : DT} {pos p : Pos} {m : DA} {mp : DP} {g : Tg} {E : Value → Shared → Prop}
/-- one iterator object for what is told at once -/
def rIter (K : PySem.W.Frag) (x : V) (H : Hp) (R : It → Hp → Prop) : Prop := ∃ a, x = .ref a ∧ (((∃ xs, SqL K H a xs) ∧ R (Itl K a) H) ∨ ((∃ xs, SqT K H a xs) ∧ R (Itt K a) H) ∨
  (∃ ws, H a = some (.dK ws) ∧ ∀ o, R (Itk a o ws) (upd H a (.frz o (.dK ws)))) ∨ ∃ o ws, H a = some (.frz o (.dK ws)) ∧ R (Itk a o ws) H)
theorem pi_any {te : TE} (he : PE X e te) : PI X tg e (fun s H R => te s H fun x H1 => rIter X.K x H1 R) := by
  refine ⟨fun pins s σ H R I h => ?_⟩
  refine thn (he.run pins s σ H _ I h) fun v s1 ⟨x, H1, I1, r1, a, ex, q⟩ => ?_
  subst ex
  cases r1
  rcases q with ⟨⟨xs, hq⟩, q⟩ | ⟨⟨xs, hq⟩, q⟩ | ⟨ws, hq, q⟩ | ⟨o, ws, hq, q⟩
  · obtain ⟨its, rv, p, hz⟩ := I1.list hq
    refine wpAny_pyIter_list p.isList ?_
    refine ⟨s1.heap.objs.size, [s1.heap.objs.size], _, _, H1, rfl, I1.kept (t' := s1.toks) fun b o e => Heap.get?_push_of_some _ e, turn_list a _, ⟨_, Heap.get?_push_size _ rfl, rfl, rfl⟩, fun b hb => ?_, q⟩
    have eb : b = s1.heap.objs.size := by simpa using hb
    subst eb
    exact I1.fpOk (Nat.le_refl _) (I1.hok.fresh (Nat.le_refl _))
  · obtain ⟨its, rv, p, hz⟩ := I1.tuple hq
    refine wpAny_pyIter_tuple (show s1.heap.IsTuple a its.toArray from p) ?_
    refine ⟨s1.heap.objs.size, [s1.heap.objs.size], _, _, H1, rfl, I1.kept (t' := s1.toks) fun b o e => Heap.get?_push_of_some _ e, turn_tuple a _, ⟨_, Heap.get?_push_size _ rfl, rfl, rfl⟩, fun b hb => ?_, q⟩
    have eb : b = s1.heap.objs.size := by simpa using hb
    subst eb
    exact I1.fpOk (Nat.le_refl _) (I1.hok.fresh (Nat.le_refl _))
  · obtain ⟨od, I2⟩ := I1.lock hq True.intro
    have hd : (upd H1 a (.frz od (.dK ws))) a = some (.frz od (.dK ws)) := upd_same
    obtain ⟨hs, hgd, hx, es, ep, vs, hdt, hsz, kv, hm⟩ := I2.frzK hd
    refine iter_keys hs hgd hx hdt (pi_one (tk := s1.toks) I2 _ (turn_keys _ hdt) ⟨_, Heap.get?_push_size _ rfl, rfl, ?_⟩ (q od))
    rw [hsz] <;> rfl
  · obtain ⟨hs, hgd, hx, es, ep, vs, hdt, hsz, kv, hm⟩ := I1.frzK hq
    refine iter_keys hs hgd hx hdt (pi_one (tk := s1.toks) I1 _ (turn_keys _ hdt) ⟨_, Heap.get?_push_size _ rfl, rfl, ?_⟩ q)
    rw [hsz] <;> rfl
theorem i_any (he : GE X ca W e ma) : GI X ca W tg e (pIter ma) := by
  refine pi_imp (pi_any he) fun s H R ⟨rh, en, S, her, hs, h⟩ => ?_
  refine (PostI.bind her hs h).mono fun v H1 ⟨rh1, x, S1, e1, he1, hs1, hx1, hp1⟩ => ?_
  unfold fIter at hp1
  split at hp1
  · obtain ⟨a, vs, rfl, ha, hv⟩ := hx1
    exact ⟨a, rfl, .inr (.inl ⟨⟨vs, ha.sq⟩, hp1 rh1 H1 _ Ext.refl hs1 (it_tup ha.sq hv)⟩)⟩
  · obtain ⟨a, vs, rfl, ha, hv⟩ := hx1
    exact ⟨a, rfl, .inl ⟨⟨vs, ha.sq⟩, hp1 rh1 H1 _ Ext.refl hs1 (it_rol ha hv)⟩⟩
  · rename_i n
    split at hp1
    · rename_i q
      obtain ⟨a, vs, rfl, hra, ha, hv⟩ := hs1.lst hx1 q
      exact ⟨a, rfl, .inl ⟨⟨vs, SqL.of ha⟩, hp1 rh1 H1 _ Ext.refl hs1 (it_list hra)⟩⟩
    · rename_i q
      obtain ⟨a, ws, rfl, hra, ha, hv⟩ := hs1.dic hx1 q
      refine ⟨a, rfl, .inr (.inr (.inl ⟨ws, ha, fun o => ?_⟩))⟩
      have ex : Ext X.K rh1 H1 rh1 (upd H1 a (.frz o (.dK ws))) := Ext.write ha (.inr ⟨_, rfl⟩)
      exact hp1 rh1 _ _ ex (hs1.write hra ha (.inr ⟨_, rfl⟩) ⟨ws, o, upd_same, KRs.ext ex _ _ hv⟩) (it_keys upd_same (KRs.ext ex _ _ hv))
    · rename_i q
      obtain ⟨a, ws, o, rfl, hra, ha, hv⟩ := hs1.fdic hx1 q
      exact ⟨a, rfl, .inr (.inr (.inr ⟨o, ws, ha, hp1 rh1 H1 _ Ext.refl hs1 (it_keys ha hv)⟩))⟩
    · exact hp1.elim
  · exact hp1.elim
theorem i_rng1 (hg : Gl X "range") (hm : X.mg "range" = none) (ha : GA X ca W [a] m) (hs : starEach [a] X.env = [(false, eval a X.env)] := by rfl) : GI X ca W tg (.Call (.Name "range" p) [a] [] pos) (pRange1 m) := by
  refine pi_imp (pi_range1 hg hm ha hs) fun s H R ⟨rh, en, S, her, hs, h⟩ => ?_
  refine (PostI.bindA her hs h).mono fun vs H1 ⟨rh1, xs, S1, e1, he1, hs1, hx1, hp1⟩ => ?_
  unfold fRange1 at hp1
  split at hp1
  · obtain ⟨v, r, rfl, h1, h2⟩ := hx1
    cases h1; cases h2
    split at hp1
    · rename_i c
      exact ⟨_, rfl, c.1, c.2, hp1 rh1 H1 _ Ext.refl hs1 it_rng⟩
    · exact hp1.elim
  · exact hp1.elim
theorem i_rng2 (hg : Gl X "range") (hm : X.mg "range" = none) (ha : GA X ca W [a, b] m) (hs : starEach [a, b] X.env = [(false, eval a X.env), (false, eval b X.env)] := by rfl) (hs2 : starEach [b] X.env = [(false, eval b X.env)] := by rfl) : GI X ca W tg (.Call (.Name "range" p) [a, b] [] pos) (pRange2 m) := by
  refine pi_imp (pi_range2 hg hm ha hs hs2) fun s H R ⟨rh, en, S, her, hs, h⟩ => ?_
  refine (PostI.bindA her hs h).mono fun vs H1 ⟨rh1, xs, S1, e1, he1, hs1, hx1, hp1⟩ => ?_
  unfold fRange2 at hp1
  split at hp1
  · obtain ⟨v, r, rfl, h1, v2, r2, rfl, h2, h3⟩ := hx1
    cases h1; cases h2; cases h3
    split at hp1
    · rename_i c
      exact ⟨_, _, rfl, c, hp1 rh1 H1 _ Ext.refl hs1 it_rng⟩
    · exact hp1.elim
  · exact hp1.elim
theorem i_enum {es : List Expr} {k : Nat} {tpos : Pos} (hg : Gl X "enumerate") (hm : X.mg "enumerate" = none) (ha : GA X ca W [a] m) (hs : starEach [a] X.env = [(false, eval a X.env)] := by rfl) : GI X ca W (.Tuple es k tpos) (.Call (.Name "enumerate" p) [a] [] pos) (pEnum m) := by
  refine pi_imp (pi_enum hg hm ha hs) fun s H R ⟨rh, en, S, her, hs, h⟩ => ?_
  refine (PostI.bindA her hs h).mono fun vs H1 ⟨rh1, xs, S1, e1, he1, hs1, hx1, hp1⟩ => ?_
  unfold fEnum at hp1
  split at hp1
  · obtain ⟨v, r, rfl, h1, h2⟩ := hx1
    cases h2
    split at hp1
    · rename_i q
      obtain ⟨a, vs, rfl, hra, ha, hv⟩ := hs1.lst h1 q
      exact ⟨a, vs, rfl, SqL.of ha, hp1 rh1 H1 _ Ext.refl hs1 (it_enum hra)⟩
    · exact hp1.elim
  · exact hp1.elim
theorem i_zip {es : List Expr} {k : Nat} {tpos : Pos} (hg : Gl X "zip") (hm : X.mg "zip" = none) (ha : GA X ca W [a, b] m) (hs : starEach [a, b] X.env = (false, eval a X.env) :: starEach [b] X.env := by rfl) (hpl : (backTo pos (starEach [b] X.env)).any (·.1) = false := by rfl) : GI X ca W (.Tuple es k tpos) (.Call (.Name "zip" p) [a, b] [] pos) (pZip m) := by
  refine pi_imp (RZ.pi_zipA hg hm ha hs hpl) fun s H R ⟨rh, en, S, her, hs, h⟩ => ?_
  refine (PostI.bindA her hs h).mono fun vs H1 ⟨rh1, xs, S1, e1, he1, hs1, hx1, hp1⟩ => ?_
  unfold fZip at hp1
  split at hp1
  · obtain ⟨v, r, rfl, h1, v2, r2, rfl, h2, h3⟩ := hx1
    cases h3
    obtain ⟨a, vs, rfl, ha, hv⟩ := h1
    obtain ⟨b, ws, rfl, hb, hw⟩ := h2
    exact ⟨a, b, vs, ws, rfl, .inr ⟨ha.sq, hb.sq, hp1 rh1 H1 _ Ext.refl hs1 (it_zipT ha.sq hv hb.sq hw)⟩⟩
  · obtain ⟨v, r, rfl, h1, v2, r2, rfl, h2, h3⟩ := hx1
    cases h3
    obtain ⟨a, rfl, ha⟩ := h1
    obtain ⟨b, rfl, hb⟩ := h2
    split at hp1
    · rename_i q1 q2
      obtain ⟨vs, h1, _⟩ := lstAt_of hs1 ha q1
      obtain ⟨ws, k1, _⟩ := lstAt_of hs1 hb q2
      exact ⟨a, b, vs, ws, rfl, .inl ⟨h1, k1, hp1 rh1 H1 _ Ext.refl hs1 (it_zipL ha hb)⟩⟩
    · exact hp1.elim
  · exact hp1.elim

theorem wipe_wipe (s : L2.St) : ∀ vs : List Nat, wipe (wipe s vs) vs = wipe s vs := by
  intro vs
  have key : ∀ (us vs : List Nat), (∀ i ∈ us, i ∈ vs) → ∀ s : L2.St, wipe (wipe s us) vs = wipe s vs := by
    intro us
    induction us with
    | nil => intro vs _ s; rfl
    | cons u us ih =>
      intro vs h s
      have e : wipe s (u :: us) = (wipe s us).set u none := rfl
      rw [e, wipe_set_in (h u List.mem_cons_self)]
      exact ih vs (fun i hi => h i (List.mem_cons_of_mem _ hi)) s
  exact key vs vs (fun _ h => h) s
theorem ER.wipe {K : PySem.W.Frag} {H : Hp} {rh : List Addr} {en : En} {s : L2.St} (h : ER K H rh en s) : ∀ vs : List Nat, ER K H rh (wipeP en vs) (L2.wipe s vs)
  | [] => h
  | v :: vs => by
    have ih := ER.wipe h vs
    show ER K H rh ((wipeP en vs).set v none) ((L2.wipe s vs).set v none)
    refine ⟨by rw [List.length_set, List.length_set]; exact ih.len, fun i x e => ?_⟩
    by_cases hi : v = i
    · subst hi
      rw [List.getElem?_set] at e
      split at e
      · split at e <;> cases e
      · rename_i hn; exact absurd rfl hn
    · rw [List.getElem?_set_ne hi] at e
      obtain ⟨u, q1, q2⟩ := ih.at_ i x e
      exact ⟨u, by rw [List.getElem?_set_ne hi]; exact q1, q2⟩
/-- nothing that raises may stand in a comprehension -/
abbrev W0 : WX := fun _ _ _ _ => False
abbrev GTs (X : Cx) (ca : Nat → Addr) (e : List Expr) (t : DT) : Prop := PTs X e (LT X.K ca W0 t)
theorem pts_imp {es : List Expr} {t t' : TT} (h : PTs X es t) (i : ∀ s H Q, t' s H Q → t s H Q) : PTs X es t' := ⟨fun pins s σ H Q I q => h.run pins s σ H Q I (i σ H Q q)⟩
theorem q_nil : GTs X ca [] tYesP := pts_imp pts_nil fun s H Q ⟨rh, en, S, he, hs, hp⟩ => hp.same hs
theorem q_one (h : GT X ca W0 a ta) : GTs X ca [a] ta := pts_one h
theorem lc_post {K : PySem.W.Frag} {J : It} {it : Nat → Sto → Option (Option PV)} {rh0 : List Addr} {H0 : Hp} {tt : DT} {te : DE} (hj : ItOk K J it rh0 H0) {s : L2.St} {en : En} {S : Sto} {n : Nat} {D : Addr} {vs : List Nat} {Q : VK} (hg : g.sl = vs) (he : ER K H0 rh0 en s) (hs : SR K H0 rh0 S) (hD : H0 D = none)
    (h : Post K ca W s rh0 H0 (lcRun it g tt te S.length n 0 (wipeP en vs) (S ++ [.lst []])) Q) :
    ∃ Wi : Nat → Nat → Hp → Prop, (∃ m, Wi 0 m (upd H0 D (.lst []))) ∧ ∀ i m H, Wi i m H →
      (J.stop i H ∧ Q (.ref D) H) ∨ (J.go i H ∧ ∃ Nx : Hp → Prop, (∀ H', Nx H' → ∃ m', m' < m ∧ Wi (i + 1) m' H') ∧ ∀ v H', J.yld i H v H' → LG K g v (wipe s vs) H' fun s2 H2 => wipe s2 vs = wipe s vs ∧ LT K ca W0 tt s2 H2 fun b H3 =>
        if b = true then LE K ca W0 te s2 H3 fun y H4 => ∃ acc, H4 D = some (.lst acc) ∧ acc.length < sizeLine ∧ Nx (upd H4 D (.lst (acc ++ [y]))) else Nx H3) := by
  let Inn : Nat → Nat → Hp → Prop := fun i f H => ∃ rh S1, Ext K (rh0 ++ [D]) (upd H0 D (.lst [])) rh H ∧ SR K H rh S1 ∧ Post K ca W s rh H (lcRun it g tt te S.length f i (wipeP en vs) S1) Q
  have ex0 : Ext K rh0 H0 (rh0 ++ [D]) (upd H0 D (.lst [])) := Ext.new hD [D]
  refine ⟨Inn, ⟨n, rh0 ++ [D], S ++ [.lst []], Ext.refl, hs.new (m := .lst []) hD ⟨[], upd_same, rfl⟩, Post.later ex0 h⟩, ?_⟩
  rintro i f H ⟨rh, S1, e, hs1, h⟩
  cases f with
  | zero => exact h.elim
  | succ f =>
    have hi := hj i rh H S1 (ex0.trans e) hs1
    have rD : rh[S.length]? = some D := e.get (at_end hs.len.symm)
    unfold lcRun at h
    cases q : it i S1 with
    | none => rw [q] at h; exact h.elim
    | some o =>
      rw [q] at h hi
      cases o with
      | none => exact .inl ⟨hi, h.same hs1 ⟨D, rfl, rD⟩⟩
      | some x =>
        obtain ⟨hgo, hy⟩ := hi
        cases q1 : g.f x (wipeP en vs) with
        | none => simp only [q1] at h; exact h.elim
        | some en1 =>
          simp only [q1] at h
          refine .inr ⟨hgo, fun H => Inn (i + 1) f H, fun H' z => ⟨f, Nat.lt_succ_self f, z⟩, fun v H' hv => ?_⟩
          obtain ⟨ex, hs', hx⟩ := hy v H' hv
          have ex1 := (ex0.trans e).trans ex
          refine ⟨rh, wipeP en vs, x, en1, (he.ext ex1).wipe vs, hx, q1, fun s' he' hw => ⟨?_, rh, en1, S1, he', hs', ?_⟩⟩
          · rw [hw vs (by rw [hg]; exact fun _ h => h)]
            exact wipe_wipe s vs
          · replace h := Post.later ex h
            cases q2 : tt en1 S1 with
            | bad => rw [q2] at h; exact h
            | exc c f' S2 => rw [q2] at h; exact h.elim
            | ok b S2 =>
              rw [q2] at h
              intro rh2 H2 e2 hs2
              cases b with
              | false =>
                exact iteF ⟨rh2, S2, (e.trans ex).trans e2, hs2, Post.later e2 h⟩
              | true =>
                refine iteT ⟨rh2, en1, S2, he'.ext e2, hs2, ?_⟩
                simp only at h
                cases q3 : te en1 S2 with
                | bad => rw [q3] at h; exact h
                | exc c f' S3 => rw [q3] at h; exact h.elim
                | ok y S3 =>
                  rw [q3] at h
                  intro rh3 H3 w e3 hs3 hy3
                  simp only at h
                  cases q4 : S3[S.length]? with
                  | none => rw [q4] at h; exact h.elim
                  | some mo =>
                    rw [q4] at h
                    cases mo with
                    | lst acc =>
                      simp only at h
                      have ext3 := ((e.trans ex).trans e2).trans e3
                      have rD3 : rh3[S.length]? = some D := ext3.get (at_end hs.len.symm)
                      obtain ⟨a', vs', hva, hra, hHa, hVa⟩ := hs3.lst (v := .ref D) ⟨D, rfl, rD3⟩ q4
                      cases hva
                      by_cases c : acc.length < sizeLine
                      · rw [if_pos c] at h
                        refine ⟨vs', hHa, by rw [← hVa.length]; exact c, ?_⟩
                        have ex4 : Ext K rh3 H3 rh3 (upd H3 D (.lst (vs' ++ [w]))) := Ext.write hHa (.inl ⟨_, rfl⟩)
                        have rel : VRs K H3 rh3 (acc ++ [y]) (vs' ++ [w]) := hVa.append ⟨w, [], rfl, hy3, rfl⟩
                        exact ⟨rh3, _, ext3.trans ex4, hs3.write (m := .lst (acc ++ [y])) rD3 hHa (.inl ⟨_, rfl⟩) ⟨_, upd_same, VRs.ext ex4 _ _ rel⟩, Post.later ((e2.trans e3).trans ex4) h⟩
                      · rw [if_neg c] at h
                        exact h.elim
                    | _ => exact h.elim
theorem x_lc {elt : Expr} {ifs : List Expr} {scope : Scope} {own : List (Str × Nat)} {tt : DT} {te : DE} (hc : X.calm = true) (hN : X.N.Nodup) (hi : GI X ca W tg iter mp) (ok : BlkOk X.N X.env.scope scope own) (hsl : own.map (·.2) = g.sl)
    (hg : ∀ (s : Shared) (H : Hp) (C : Addr) (cl : List (Str × Addr)) (fp : List Addr), GG (X.blk s H scope (compEnvC scope cl C X.env) fp) tg g)
    (ht : ∀ (s : Shared) (H : Hp) (C : Addr) (cl : List (Str × Addr)) (fp : List Addr), GTs (X.blk s H scope (compEnvC scope cl C X.env) fp) ca ifs tt)
    (he : ∀ (s : Shared) (H : Hp) (C : Addr) (cl : List (Str × Addr)) (fp : List Addr), GE (X.blk s H scope (compEnvC scope cl C X.env) fp) ca W0 elt te) (hs : ∀ x, foldedSetIterable iter X.env x = pure x := by intro _; rfl) :
    GE X ca W (.ListComp elt [⟨tg, iter, ifs, 0⟩] scope pos) (eLc mp g tt te) := by
  refine pe_imp (pe_lc (g := LG X.K g) (tt := LT X.K ca W0 tt) (te := LE X.K ca W0 te) hc hN hi ok hg ht he hs) fun s H Q ⟨rh, en, S, her, hs, h⟩ => ?_
  refine ⟨rh, en, S, her, hs, ?_⟩
  unfold eLc at h
  cases q : mp en S with
  | bad => rw [q] at h; exact h
  | exc c f S1 => rw [q] at h; exact h
  | ok P S1 =>
    rw [q] at h
    intro rh1 H1 J e1 hs1 hj D hD
    rw [hsl]
    exact lc_post hj rfl (her.ext e1) hs1 hD (Post.later e1 h)
theorem z_setLc {i : Nat} {y : Str} {py spos : Pos} {elt : Expr} {ifs : List Expr} {scope : Scope} {own : List (Str × Nat)} {tt : DT} {te : DE} (hc : X.calm = true) (hN : X.N.Nodup) (hy : X.N[i]? = some y) (hyl : X.env.scope.names.lookup y = some .local)
    (hsw : swapsWith (.ListComp elt [⟨tg, iter, ifs, 0⟩] scope pos) (some (.Name y py)) spos.line X.env = pure true) (hi : GI X ca W tg iter mp) (ok : BlkOk X.N X.env.scope scope own) (hsl : own.map (·.2) = g.sl)
    (hg : ∀ (s : Shared) (H : Hp) (C : Addr) (cl : List (Str × Addr)) (fp : List Addr), GG (X.blk s H scope (compEnvC scope cl C X.env) fp) tg g)
    (ht : ∀ (s : Shared) (H : Hp) (C : Addr) (cl : List (Str × Addr)) (fp : List Addr), GTs (X.blk s H scope (compEnvC scope cl C X.env) fp) ca ifs tt)
    (he : ∀ (s : Shared) (H : Hp) (C : Addr) (cl : List (Str × Addr)) (fp : List Addr), GE (X.blk s H scope (compEnvC scope cl C X.env) fp) ca W0 elt te) (hs : ∀ x, foldedSetIterable iter X.env x = pure x := by intro _; rfl) :
    GS X ca W (.Assign [.Name y py] (.ListComp elt [⟨tg, iter, ifs, 0⟩] scope pos) spos) (sSet i (eLc mp g tt te)) := by
  refine ps_imp (ps_setLc (g := LG X.K g) (tt := LT X.K ca W0 tt) (te := LE X.K ca W0 te) hc hN hy hyl hsw hi ok hg ht he hs) fun Dd s H ⟨rh, en, S, her, hs, h⟩ => ?_
  have k := PostS.bind her hs h
  obtain ⟨rh, en, S, her, hs, h⟩ := k
  refine ⟨rh, en, S, her, hs, ?_⟩
  unfold eLc at h
  cases q : mp en S with
  | bad => rw [q] at h; exact h
  | exc c f S1 => rw [q] at h; exact h
  | ok P S1 =>
    rw [q] at h
    intro rh1 H1 J e1 hs1 hj D hD
    rw [hsl]
    refine lc_post (Q := fun x H1 => Dd.nx (s.set i (some x)) H1) hj rfl (her.ext e1) hs1 hD (Post.mono (Post.later e1 h) fun v H' ⟨rh2, x, S2, e2, he2, hs2, hx2, hp2⟩ => ?_)
    exact hp2 rh2 H' _ Ext.refl (he2.set i hx2) hs2
end
end Dn
namespace Dn
open PySem PySem.Spec PyProof.Rows L2

theorem ltCps_irr : ∀ a : List Nat, ltCps a a = false
  | [] => rfl
  | x :: a => by simp [ltCps, ltCps_irr a]
theorem ltCps_tri : ∀ a b : List Nat, ltCps a b = false → ltCps b a = false → a = b
  | [], [], _, _ => rfl
  | [], y :: b, h, _ => by simp [ltCps] at h
  | x :: a, [], _, h => by simp [ltCps] at h
  | x :: a, y :: b, h1, h2 => by
    simp [ltCps] at h1 h2
    have e : x = y := by omega
    subst e
    rw [ltCps_tri a b (h1.2 rfl) (h2.2 rfl)]
theorem ltCps_neg_trans : ∀ a b c : List Nat, ltCps b a = false → ltCps c b = false → ltCps c a = false
  | [], [], [], _, _ => rfl
  | [], _, y :: c, _, _ => by simp [ltCps]
  | [], y :: b, [], _, h => by simp [ltCps] at h
  | x :: a, [], _, h, _ => by simp [ltCps] at h
  | x :: a, y :: b, [], _, h => by simp [ltCps] at h
  | x :: a, y :: b, z :: c, h1, h2 => by
    simp [ltCps] at h1 h2 ⊢
    refine ⟨by omega, fun e => ?_⟩
    subst e
    have e : y = z := by omega
    subst e
    exact ltCps_neg_trans a b c (h1.2 rfl) (h2.2 rfl)
def sle (a b : Str) : Bool := !ltCps b.cps.toList a.cps.toList
def sortStrs (xs : List Str) : List Str := xs.mergeSort sle
theorem sle_trans (a b c : Str) : sle a b = true → sle b c = true → sle a c = true := by
  unfold sle
  intro h1 h2
  rw [Bool.not_eq_true'] at h1 h2 ⊢
  exact ltCps_neg_trans _ _ _ h1 h2
theorem ltCps_asym : ∀ a b : List Nat, ltCps a b = true → ltCps b a = false
  | [], [], h => by simp [ltCps] at h
  | [], y :: b, _ => by simp [ltCps]
  | x :: a, [], h => by simp [ltCps] at h
  | x :: a, y :: b, h => by
    simp [ltCps] at h ⊢
    refine ⟨by omega, fun e => ?_⟩
    subst e
    rcases h with h | h
    · omega
    · exact ltCps_asym a b h.2
theorem sle_total (a b : Str) : (sle a b || sle b a) = true := by
  unfold sle
  cases h : ltCps b.cps.toList a.cps.toList with
  | false => rfl
  | true => rw [ltCps_asym _ _ h]; rfl
theorem sle_anti (a b : Str) (h1 : sle a b = true) (h2 : sle b a = true) : a = b := by
  unfold sle at h1 h2
  rw [Bool.not_eq_true'] at h1 h2
  have e := ltCps_tri _ _ h2 h1
  cases a; cases b
  simp only [Str.mk.injEq]
  exact Array.toList_inj.mp e
theorem rising_pw : ∀ (ys : List Str) (p : Str), risingS p ys = true → (p :: ys).Pairwise fun a b => sle a b = true
  | [], p, _ => List.pairwise_singleton _ _
  | y :: ys, p, h => by
    unfold risingS at h
    rw [Bool.and_eq_true] at h
    have ih := rising_pw ys y h.2
    refine List.pairwise_cons.mpr ⟨fun z hz => ?_, ih⟩
    have h1 : sle p y = true := h.1
    rcases List.mem_cons.mp hz with rfl | hz
    · exact h1
    · exact sle_trans p y z h1 ((List.pairwise_cons.mp ih).1 z hz)
theorem sorted_pw {ys : List Str} (h : sortedS ys = true) : ys.Pairwise fun a b => sle a b = true := by
  cases ys with
  | nil => exact List.Pairwise.nil
  | cons y ys => exact rising_pw ys y h
theorem sortStrs_pw (xs : List Str) : (sortStrs xs).Pairwise fun a b => sle a b = true := List.pairwise_mergeSort sle_trans sle_total xs
theorem sortStrs_perm (xs : List Str) : (sortStrs xs).Perm xs := List.mergeSort_perm xs sle
theorem sorted_unique {xs ys : List Str} (hp : ys.Perm xs) (hs : sortedS ys = true) : ys = sortStrs xs :=
  (hp.trans (sortStrs_perm xs).symm).eq_of_pairwise (fun a b _ _ h1 h2 => sle_anti a b h1 h2) (sorted_pw hs) (sortStrs_pw xs)

def fLen (xs : List PV) (S : Sto) : Res PV := match xs with
  | [.tup ys] => .ok (.int ys.length) S
  | [.rol ys] => .ok (.int ys.length) S
  | [.str z] => if z.length ≤ sizeLine then .ok (.int z.length) S else .bad
  | [.ref n] => match S[n]? with
    | some (.lst ys) => .ok (.int ys.length) S
    | some (.dic kvs) => .ok (.int kvs.length) S
    | _ => .bad
  | _ => .bad
def fTuple (xs : List PV) (S : Sto) : Res PV := match xs with
  | [.tup ys] => .ok (.tup ys) S
  | [.ref n] => match lstAt n S with
    | some ys => .ok (.tup ys) S
    | none => .bad
  | _ => .bad
def fList (xs : List PV) (S : Sto) : Res PV := match xs with
  | [.tup ys] => .ok (.ref S.length) (S ++ [.lst ys])
  | [.rol ys] => .ok (.ref S.length) (S ++ [.lst ys])
  | [.ref n] => match lstAt n S with
    | some ys => .ok (.ref S.length) (S ++ [.lst ys])
    | none => .bad
  | _ => .bad
def fInt (xs : List PV) (S : Sto) : Res PV := match xs with
  | [.int i] => .ok (.int i) S
  | [.bl k] => .ok (.int (if k then 1 else 0)) S
  | _ => .bad
def strsOf : List PV → Option (List Str)
  | [] => some []
  | .str x :: r => (strsOf r).map (x :: ·)
  | _ :: _ => none
def keysOf : List (Key × PV) → Option (List Str)
  | [] => some []
  | (.inr x, _) :: r => (keysOf r).map (x :: ·)
  | _ :: _ => none
def fSorted (xs : List PV) (S : Sto) : Res PV := match xs with
  | [.ref n] => match S[n]? with
    | some (.lst ys) => match strsOf ys with
      | some zs => if zs.length < 64 then .ok (.ref S.length) (S ++ [.lst ((sortStrs zs).map .str)]) else .bad
      | none => .bad
    | some (.dic kvs) => match keysOf kvs with
      | some zs => if zs.length < 64 then .ok (.ref S.length) (S ++ [.lst ((sortStrs zs).map .str)]) else .bad
      | none => .bad
    | _ => .bad
  | _ => .bad
def tyName (x : PV) (S : Sto) : Option String := match x with
  | .non => some "NoneType"
  | .bl _ => some "bool"
  | .int _ => some "int"
  | .str _ => some "str"
  | .tup _ => some "tuple"
  | .ref n => match S[n]? with
    | some (.lst _) => some "list"
    | some (.dic _) => some "dict"
    | _ => none
  | .ty _ => none
  | .rol _ => none
  | .pr _ => none
def fIsi (xs : List PV) (S : Sto) : Res PV := match xs with
  | [x, .ty T] => match tyName x S with
    | some a => match kitB a T with
      | some b => .ok (.bl b) S
      | none => .bad
    | none => .bad
  | _ => .bad
section
variable {K : PySem.W.Frag} {ca : Nat → Addr}
def rLen (K : PySem.W.Frag) : List V → Hp → VK → Prop := fun xs H Q => (∃ x n, xs = [x] ∧ LenV K x H n ∧ Q (.int n) H) ∨ ∃ a kvs, xs = [V.ref a] ∧ H a = some (.dK kvs) ∧ Q (.int kvs.length) H
theorem fd_len : FnD K ca fLen (rLen K) := by
  intro W s rh H S xs vs Q hs hx h
  unfold fLen at h
  split at h
  · obtain ⟨v, r, rfl, h1, h2⟩ := hx
    cases h2
    obtain ⟨a, vs, rfl, ha, hv⟩ := h1
    exact .inl ⟨.ref a, _, rfl, .inr ⟨vs, ha.sq, hv.length⟩, h.same hs rfl⟩
  · obtain ⟨v, r, rfl, h1, h2⟩ := hx
    cases h2
    obtain ⟨a, vs, rfl, ha, hv⟩ := h1
    exact .inl ⟨.ref a, _, rfl, .inl ⟨vs, ha.sq, hv.length⟩, h.same hs rfl⟩
  · obtain ⟨v, r, rfl, h1, h2⟩ := hx
    cases h1; cases h2
    split at h
    · rename_i c
      exact .inl ⟨_, _, rfl, ⟨c, rfl⟩, h.same hs rfl⟩
    · exact h.elim
  · obtain ⟨v, r, rfl, h1, h2⟩ := hx
    cases h2
    split at h
    · rename_i q
      obtain ⟨a, vs, rfl, _, ha, hv⟩ := hs.lst h1 q
      exact .inl ⟨.ref a, _, rfl, .inl ⟨vs, SqL.of ha, hv.length⟩, h.same hs rfl⟩
    · rename_i q
      obtain ⟨a, ws, rfl, _, ha, hv⟩ := hs.dic h1 q
      refine .inr ⟨a, ws, rfl, ha, ?_⟩
      rw [← hv.length]
      exact h.same hs rfl
    · exact h.elim
  · exact h.elim
theorem lstAt_vr {rh : List Addr} {H : Hp} {S : Sto} {n : Nat} {v : V} {ys : List PV} (hs : SR K H rh S) (h1 : VR K H rh (.ref n) v) (e : lstAt n S = some ys) : ∃ a vs, v = .ref a ∧ SqL K H a vs ∧ VRs K H rh ys vs := by
  obtain ⟨a, rfl, ha⟩ := h1
  obtain ⟨vs, q1, q2⟩ := lstAt_of hs ha e
  exact ⟨a, vs, rfl, q1, q2⟩
def rTupX (K : PySem.W.Frag) : List V → Hp → VK → Prop := fun xs H Q => ∃ p ys, xs = [.ref p] ∧ ((SqL K H p ys ∧ ∀ (l : Addr) (o : Obj), H l = none → o.dict = none → Q (.ref l) (upd H l (.frz o (.tup ys)))) ∨ (SqT K H p ys ∧ Q (.ref p) H))
theorem call_tupleX {X : Cx} : CallR X (.type "tuple") (rTupX X.K) := by
  intro pins s sg H xs us Q I r h
  obtain ⟨p, ys, rfl, h⟩ := h
  obtain ⟨u, rfl, rx⟩ := vals1 r
  cases rx
  rcases h with ⟨hq, q⟩ | ⟨hq, q⟩
  · obtain ⟨its, r', pl, hz⟩ := I.list hq
    have hlen := r'.length
    refine call_tuple_list pl.isList (fun h' kp => ?_) (by simp only [List.size_toArray] <;> omega)
    have I1 : Inv X pins sg H { s with heap := h' } := I.kept (t' := s.toks) kp
    exact tupX_laid (s := { s with heap := h' }) I1 hz r' q
  · obtain ⟨its, r', pl, hz⟩ := I.tuple hq
    exact call_tuple_same pl ⟨.ref p, H, I, rfl, q⟩
theorem fd_tuple : FnD K ca fTuple (rTupX K) := by
  intro W s rh H S xs vs Q hs hx h
  unfold fTuple at h
  split at h
  · obtain ⟨v, r, rfl, h1, h2⟩ := hx
    cases h2
    obtain ⟨a, vs, rfl, ha, hv⟩ := h1
    exact ⟨a, vs, rfl, .inr ⟨ha.sq, h.same hs ⟨a, vs, rfl, ha, hv⟩⟩⟩
  · obtain ⟨v, r, rfl, h1, h2⟩ := hx
    cases h2
    split at h
    · rename_i q
      obtain ⟨a, vs, rfl, ha, hv⟩ := lstAt_vr hs h1 q
      exact ⟨a, vs, rfl, .inl ⟨ha, fun l o hl ho => h.newT hs hl ho hv⟩⟩
    · exact h.elim
  · exact h.elim
theorem fd_list : FnD K ca fList (fun xs H Q => ∃ p ys, xs = [.ref p] ∧ (SqL K H p ys ∨ SqT K H p ys) ∧ ∀ l, H l = none → Q (.ref l) (upd H l (.lst ys))) := by
  intro W s rh H S xs vs Q hs hx h
  unfold fList at h
  split at h
  · obtain ⟨v, r, rfl, h1, h2⟩ := hx
    cases h2
    obtain ⟨a, vs, rfl, ha, hv⟩ := h1
    exact ⟨a, vs, rfl, .inr ha.sq, fun l hl => h.newL hs hl hv⟩
  · obtain ⟨v, r, rfl, h1, h2⟩ := hx
    cases h2
    obtain ⟨a, vs, rfl, ha, hv⟩ := h1
    exact ⟨a, vs, rfl, .inl ha.sq, fun l hl => h.newL hs hl hv⟩
  · obtain ⟨v, r, rfl, h1, h2⟩ := hx
    cases h2
    split at h
    · rename_i q
      obtain ⟨a, vs, rfl, ha, hv⟩ := lstAt_vr hs h1 q
      exact ⟨a, vs, rfl, .inl ha, fun l hl => h.newL hs hl hv⟩
    · exact h.elim
  · exact h.elim
theorem fd_int : FnD K ca fInt (fun xs H Q => (∃ i, xs = [.int i] ∧ Q (.int i) H) ∨ ∃ k, xs = [.bl k] ∧ Q (.int (if k then 1 else 0)) H) := by
  intro W s rh H S xs vs Q hs hx h
  unfold fInt at h
  split at h
  · obtain ⟨v, r, rfl, h1, h2⟩ := hx
    cases h1; cases h2
    exact .inl ⟨_, rfl, h.same hs rfl⟩
  · obtain ⟨v, r, rfl, h1, h2⟩ := hx
    cases h1; cases h2
    exact .inr ⟨_, rfl, h.same hs rfl⟩
  · exact h.elim
theorem strsOf_of {rh : List Addr} {H : Hp} : ∀ {ys : List PV} {vs : List V} {zs : List Str}, VRs K H rh ys vs → strsOf ys = some zs → vs = zs.map V.str
  | [], vs, zs, h, e => by
    cases h
    have e' : ([] : List Str) = zs := by simpa [strsOf] using e
    subst e'; rfl
  | y :: ys, vs, zs, h, e => by
    obtain ⟨v, r, rfl, h1, h2⟩ := h
    cases y with
    | str x =>
      cases h1
      unfold strsOf at e
      cases q : strsOf ys with
      | none => rw [q] at e; cases e
      | some w =>
        rw [q] at e
        have e' : x :: w = zs := Option.some.inj e
        subst e'
        rw [strsOf_of h2 q]; rfl
    | _ => simp [strsOf] at e
theorem keysOf_of {rh : List Addr} {H : Hp} : ∀ {ys : List (Key × PV)} {vs : List (Key × V)} {zs : List Str}, KRs K H rh ys vs → keysOf ys = some zs → vs.map (·.1) = zs.map Sum.inr
  | [], vs, zs, h, e => by
    cases h
    have e' : ([] : List Str) = zs := by simpa [keysOf] using e
    subst e'; rfl
  | (k, y) :: ys, vs, zs, h, e => by
    obtain ⟨v, r, rfl, h1, h2⟩ := h
    cases k with
    | inr x =>
      unfold keysOf at e
      cases q : keysOf ys with
      | none => rw [q] at e; cases e
      | some w =>
        rw [q] at e
        have e' : x :: w = zs := Option.some.inj e
        subst e'
        rw [List.map_cons, keysOf_of h2 q]; rfl
    | inl i => simp [keysOf] at e
theorem VRs_strs {rh : List Addr} {H : Hp} : ∀ zs : List Str, VRs K H rh (zs.map PV.str) (zs.map V.str)
  | [] => rfl
  | z :: zs => ⟨.str z, zs.map V.str, rfl, rfl, VRs_strs zs⟩
def rSortD : List V → Hp → VK → Prop := fun xs H Q => ∃ (a : Addr) (kvs : List (Key × V)) (ks : List Str), xs = [.ref a] ∧ Rd H a (.dK kvs) ∧ kvs.map (·.1) = ks.map Sum.inr ∧ ks.length < 64 ∧
    ∀ ys p, ys.Perm ks → sortedS ys = true → H p = none → Q (.ref p) (upd H p (.lst (ys.map V.str)))
theorem fd_sorted : FnD K ca fSorted (fun xs H Q => rSortedS K xs H Q ∨ rSortD xs H Q) := by
  intro W s rh H S xs vs Q hs hx h
  unfold fSorted at h
  split at h
  · obtain ⟨v, r, rfl, h1, h2⟩ := hx
    cases h2
    split at h
    · rename_i q
      obtain ⟨a, vs, rfl, _, ha, hv⟩ := hs.lst h1 q
      split at h
      · rename_i zs ez
        have ev := strsOf_of hv ez
        subst ev
        split at h
        · rename_i c
          refine .inl ⟨a, zs, rfl, SqL.of ha, c, fun ys p hp hsr hpn => ?_⟩
          rw [sorted_unique hp hsr]
          exact h.newL hs hpn (VRs_strs _)
        · exact h.elim
      · exact h.elim
    · rename_i q
      obtain ⟨a, ws, rfl, _, ha, hv⟩ := hs.dic h1 q
      split at h
      · rename_i zs ez
        split at h
        · rename_i c
          refine .inr ⟨a, ws, zs, rfl, .inl ha, keysOf_of hv ez, c, fun ys p hp hsr hpn => ?_⟩
          rw [sorted_unique hp hsr]
          exact h.newL hs hpn (VRs_strs _)
        · exact h.elim
      · exact h.elim
    · exact h.elim
  · exact h.elim
theorem fd_isi : FnD K ca fIsi (rIsi K) := by
  intro W s rh H S xs vs Q hs hx h
  unfold fIsi at h
  split at h
  · rename_i x T
    obtain ⟨v, r, rfl, h1, v2, r2, rfl, h2, h3⟩ := hx
    cases h2; cases h3
    split at h
    · rename_i a ea
      split at h
      · rename_i b eb
        have fin : ∀ t, TyX K H v t → t = .type a → rIsi K [v, .ty T] H Q := fun t ht et => by
          subst et
          exact ⟨v, .ty T, .type a, .type T, b, rfl, .ty T, ht, kit_ty eb, h.same hs rfl⟩
        cases x with
        | non => cases h1; cases ea; exact fin _ (.base .non) rfl
        | bl k => cases h1; cases ea; exact fin _ (.base (.bl k)) rfl
        | int i => cases h1; cases ea; exact fin _ (.base (.int i)) rfl
        | str z => cases h1; cases ea; exact fin _ (.base (.str z)) rfl
        | tup ys =>
          obtain ⟨p, vs, rfl, ha, hv⟩ := h1
          cases ea
          rcases ha with ⟨o, ha, _⟩ | ⟨o, its, n, ho, hc, _⟩
          · exact fin _ (.fTuple ha) rfl
          · exact fin _ (.kTuple ho hc) rfl
        | ref n =>
          unfold tyName at ea
          simp only at ea
          cases q : S[n]? with
          | none => rw [q] at ea; cases ea
          | some m =>
            rw [q] at ea
            cases m with
            | lst ys =>
              obtain ⟨p, vs, rfl, _, ha, hv⟩ := hs.lst h1 q
              cases ea
              exact fin _ (.base (.lst ha)) rfl
            | dic kvs =>
              obtain ⟨p, vs, rfl, _, ha, hv⟩ := hs.dic h1 q
              cases ea
              exact fin _ (.base (.dK ha)) rfl
            | _ => cases ea
        | ty n => cases ea
        | rol xs => cases ea
        | pr xs => cases ea
      · exact h.elim
    · exact h.elim
  · exact h.elim
end

def MtD (K : PySem.W.Frag) (ca : Nat → Addr) (f : PV → List PV → Sto → Res PV) (r : V → List V → Hp → VK → Prop) : Prop :=
  ∀ (W : WX) (s : L2.St) (rh : List Addr) (H : Hp) (S : Sto) (x : PV) (v : V) (xs : List PV) (vs : List V) (Q : VK), SR K H rh S → VR K H rh x v → VRs K H rh xs vs → Post K ca W s rh H (f x xs S) Q → r v vs H Q
/-- the receiver is a list -/
def isLst (x : PV) (S : Sto) : Bool := match x with
  | .ref n => (lstAt n S).isSome
  | _ => false
def isDic (x : PV) (S : Sto) : Bool := match x with
  | .ref n => match S[n]? with
    | some (.dic _) => true
    | some (.fdic _) => true
    | _ => false
  | _ => false
def eMt (is : PV → Sto → Bool) (f : PV → List PV → Sto → Res PV) (o : DE) (a : DA) : DE := fun en S => (o en S).bind fun x S1 => if is x S1 = true then (a en S1).bind fun xs S2 => f x xs S2 else .bad
def fAppend (x : PV) (xs : List PV) (S : Sto) : Res PV := match x, xs with
  | .ref n, [y] => match S[n]? with
    | some (.lst ys) => if ys.length < sizeLine then .ok .non (S.set n (.lst (ys ++ [y]))) else .bad
    | _ => .bad
  | _, _ => .bad
def fExtend (x : PV) (xs : List PV) (S : Sto) : Res PV := match x, xs with
  | .ref n, [.ref m] => match S[n]?, S[m]? with
    | some (.lst ys), some (.lst zs) => if ys.length + zs.length ≤ sizeLine then .ok .non (S.set n (.lst (ys ++ zs))) else .bad
    | _, _ => .bad
  | _, _ => .bad
def firstEq (d : PyData) : List PyData → Option Nat
  | [] => none
  | z :: zs => if PyData.eqv z d = true then some 0 else (firstEq d zs).map (· + 1)
def fIndex (x : PV) (xs : List PV) (S : Sto) : Res PV := match x, xs with
  | .ref n, [y] => match lstAt n S with
    | some ys => match data S 64 y, optAll (ys.map (data S 63)) with
      | some d, some ds => if (SeqAt.shaped d && SeqAt.shaped (.list ds)) = true then (match firstEq d ds with
        | some j => .ok (.int (j : Nat)) S
        | none => .bad) else .bad
      | _, _ => .bad
    | none => .bad
  | _, _ => .bad
theorem firstEq_of {d : PyData} : ∀ {ds : List PyData} {j : Nat}, firstEq d ds = some j → ∃ z, ds[j]? = some z ∧ PyData.eqv z d = true ∧ ∀ (m : Nat) (z' : PyData), m < j → ds[m]? = some z' → PyData.eqv z' d = false
  | [], _, e => by cases e
  | z :: zs, j, e => by
    unfold firstEq at e
    by_cases c : PyData.eqv z d = true
    · rw [if_pos c] at e
      cases e
      exact ⟨z, rfl, c, fun m _ hm => absurd hm (Nat.not_lt_zero m)⟩
    · rw [if_neg c] at e
      cases q : firstEq d zs with
      | none => rw [q] at e; cases e
      | some k =>
        rw [q] at e
        have e' : k + 1 = j := Option.some.inj e
        subst e'
        obtain ⟨y, h1, h2, h3⟩ := firstEq_of q
        refine ⟨y, by simpa using h1, h2, fun m z' hm hz => ?_⟩
        cases m with
        | zero =>
          have ez : z = z' := by simpa using hz
          subst ez
          exact Bool.eq_false_iff.mpr c
        | succ m => exact h3 m z' (by omega) (by simpa using hz)
section
variable {K : PySem.W.Frag} {ca : Nat → Addr}
theorem md_append : MtD K ca fAppend rAppend := by
  intro W s rh H S x v xs vs Q hs hv hx h
  unfold fAppend at h
  split at h
  · obtain ⟨w, r, rfl, h1, h2⟩ := hx
    cases h2
    split at h
    · rename_i ys q
      obtain ⟨a, vs, rfl, hra, ha, hvs⟩ := hs.lst hv q
      split at h
      · rename_i c
        refine ⟨a, vs, w, rfl, rfl, ha, by rw [← hvs.length]; exact c, ?_⟩
        have ex : Ext K rh H rh (upd H a (.lst (vs ++ [w]))) := Ext.write ha (.inl ⟨_, rfl⟩)
        have rel : VRs K H rh (ys ++ [_]) (vs ++ [w]) := hvs.append ⟨w, [], rfl, h1, rfl⟩
        exact h rh _ _ ex (hs.write (m := .lst _) hra ha (.inl ⟨_, rfl⟩) ⟨_, upd_same, VRs.ext ex _ _ rel⟩) rfl
      · exact h.elim
    · exact h.elim
  · exact h.elim
theorem md_extend : MtD K ca fExtend rExtend := by
  intro W s rh H S x v xs vs Q hs hv hx h
  unfold fExtend at h
  split at h
  · obtain ⟨w, r, rfl, h1, h2⟩ := hx
    cases h2
    split at h
    · rename_i ys zs q1 q2
      obtain ⟨a, vs, rfl, hra, ha, hvs⟩ := hs.lst hv q1
      obtain ⟨b, ws, rfl, hrb, hb, hws⟩ := hs.lst h1 q2
      split at h
      · rename_i c
        refine ⟨a, b, vs, ws, rfl, rfl, ha, hb, by rw [← hvs.length, ← hws.length]; exact c, ?_⟩
        have ex : Ext K rh H rh (upd H a (.lst (vs ++ ws))) := Ext.write ha (.inl ⟨_, rfl⟩)
        exact h rh _ _ ex (hs.write (m := .lst _) hra ha (.inl ⟨_, rfl⟩) ⟨_, upd_same, VRs.ext ex _ _ (hvs.append hws)⟩) rfl
      · exact h.elim
    · exact h.elim
  · exact h.elim
theorem md_index : MtD K ca fIndex (rIndexD K) := by
  intro W s rh H S x v xs vs Q hs hv hx h
  unfold fIndex at h
  split at h
  · obtain ⟨w, r, rfl, h1, h2⟩ := hx
    cases h2
    split at h
    · rename_i ys q
      obtain ⟨a, vs, rfl, ha, hvs⟩ := lstAt_vr hs hv q
      split at h
      · rename_i d ds e1 e2
        split at h
        · rename_i c
          rw [Bool.and_eq_true] at c
          split at h
          · rename_i j ej
            obtain ⟨z, g1, g2, g3⟩ := firstEq_of ej
            exact ⟨a, w, d, ds, j, z, rfl, rfl, .lst ha (dp_all (dp_of hs 63) _ _ _ hvs e2), dp_of hs 64 _ _ _ h1 e1, c.2, c.1, g1, g2, g3, h.same hs rfl⟩
          · exact h.elim
        · exact h.elim
      · exact h.elim
    · exact h.elim
  · exact h.elim
end
section
variable {X : Cx} {ca : Nat → Addr} {W : WX} {o e : Expr} {es : List Expr} {mo : DE} {m : DA} {name : Str} {apos cpos : Pos} {T id : String}
theorem x_mt {is : PV → Sto → Bool} {f : PV → List PV → Sto → Res PV} {r : V → List V → Hp → VK → Prop} (pa : PlainAttrs T) (slot : Slot T name id) (hty : typeOf (.builtin id) = pure (.type "method_descriptor")) (hm : MtR X id r) (hf : MtD X.K ca f r)
    (his : ∀ rh H S x v, SR X.K H rh S → VR X.K H rh x v → is x S = true → tyV X.K T v H) (ho : GE X ca W o mo) (ha : GA X ca W (e :: es) m)
    (hbase : attributeBase o name X.env (eval o X.env) = eval o X.env := by rfl)
    (hfew : ((backTo cpos (starEach (e :: es) X.env)).all (fun x => !x.1) && (backToKw cpos (keywordEach [] X.env)).all (fun x => x.1.isSome)
      && decide ((e :: es).length + ([] : List Keyword).length + (if ([] : List Keyword).isEmpty then 0 else 1) < 30)) = true := by rfl)
    (hline : (apos.endLine == cpos.line) = true := by rfl) (hs : starEach (e :: es) X.env = (false, eval e X.env) :: starEach es X.env := by rfl) (hplain : (backTo cpos (starEach es X.env)).any (·.1) = false := by rfl) :
    GE X ca W (.Call (.Attribute o name apos) (e :: es) [] cpos) (eMt is f mo m) := by
  refine pe_imp (pe_bm pa slot hty hm ho ha hbase hfew hline hs hplain) fun s H Q ⟨rh, en, S, he, hs, hp⟩ => ?_
  refine (Post.bind he hs hp).mono fun v H1 ⟨rh1, x, S1, e1, he1, hs1, hx1, hp1⟩ => ?_
  split at hp1
  · rename_i c
    refine ⟨his rh1 H1 S1 x v hs1 hx1 c, ?_⟩
    refine (Post.bindA he1 hs1 hp1).mono fun vs H2 ⟨rh2, xs, S2, e2, he2, hs2, hx2, hp2⟩ => ?_
    exact hf W s rh2 H2 S2 x v xs vs Q hs2 (VR.ext e2 _ _ hx1) hx2 hp2
  · exact hp1.elim
theorem isLst_ty {rh : List Addr} {H : Hp} {S : Sto} {x : PV} {v : V} (hs : SR X.K H rh S) (hx : VR X.K H rh x v) (h : isLst x S = true) : tyV X.K "list" v H := by
  unfold isLst at h
  split at h
  · rename_i n
    cases q : lstAt n S with
    | none => rw [q] at h; cases h
    | some ys =>
      obtain ⟨a, vs, rfl, ha, hvs⟩ := lstAt_vr hs hx q
      exact .inl ⟨rfl, vs, ha⟩
  · cases h
theorem x_append (ho : GE X ca W o mo) (ha : GA X ca W [e] m)
    (hbase : attributeBase o "append" X.env (eval o X.env) = eval o X.env := by rfl)
    (hfew : ((backTo cpos (starEach [e] X.env)).all (fun x => !x.1) && (backToKw cpos (keywordEach [] X.env)).all (fun x => x.1.isSome)
      && decide (([e] : List Expr).length + ([] : List Keyword).length + (if ([] : List Keyword).isEmpty then 0 else 1) < 30)) = true := by rfl)
    (hline : (apos.endLine == cpos.line) = true := by rfl) (hs : starEach [e] X.env = (false, eval e X.env) :: starEach [] X.env := by rfl) (hplain : (backTo cpos (starEach [] X.env)).any (·.1) = false := by rfl) :
    GE X ca W (.Call (.Attribute o "append" apos) [e] [] cpos) (eMt isLst fAppend mo m) :=
  x_mt PySem.F.plainAttrs_list PySem.F.slot_list_append PySem.F.type_list_append mt_append md_append (fun _ _ _ _ _ a b c => isLst_ty a b c) ho ha hbase hfew hline hs hplain
theorem x_extend (ho : GE X ca W o mo) (ha : GA X ca W [e] m)
    (hbase : attributeBase o "extend" X.env (eval o X.env) = eval o X.env := by rfl)
    (hfew : ((backTo cpos (starEach [e] X.env)).all (fun x => !x.1) && (backToKw cpos (keywordEach [] X.env)).all (fun x => x.1.isSome)
      && decide (([e] : List Expr).length + ([] : List Keyword).length + (if ([] : List Keyword).isEmpty then 0 else 1) < 30)) = true := by rfl)
    (hline : (apos.endLine == cpos.line) = true := by rfl) (hs : starEach [e] X.env = (false, eval e X.env) :: starEach [] X.env := by rfl) (hplain : (backTo cpos (starEach [] X.env)).any (·.1) = false := by rfl) :
    GE X ca W (.Call (.Attribute o "extend" apos) [e] [] cpos) (eMt isLst fExtend mo m) :=
  x_mt PySem.F.plainAttrs_list PySem.F.slot_list_extend PySem.F.type_list_extend mt_extend md_extend (fun _ _ _ _ _ a b c => isLst_ty a b c) ho ha hbase hfew hline hs hplain
theorem x_index (hu : X.A.units + 100 < cLine) (ho : GE X ca W o mo) (ha : GA X ca W [e] m)
    (hbase : attributeBase o "index" X.env (eval o X.env) = eval o X.env := by rfl)
    (hfew : ((backTo cpos (starEach [e] X.env)).all (fun x => !x.1) && (backToKw cpos (keywordEach [] X.env)).all (fun x => x.1.isSome)
      && decide (([e] : List Expr).length + ([] : List Keyword).length + (if ([] : List Keyword).isEmpty then 0 else 1) < 30)) = true := by rfl)
    (hline : (apos.endLine == cpos.line) = true := by rfl) (hs : starEach [e] X.env = (false, eval e X.env) :: starEach [] X.env := by rfl) (hplain : (backTo cpos (starEach [] X.env)).any (·.1) = false := by rfl) :
    GE X ca W (.Call (.Attribute o "index" apos) [e] [] cpos) (eMt isLst fIndex mo m) :=
  x_mt PySem.F.plainAttrs_list PySem.F.slot_list_index PySem.F.type_list_index (mt_indexD (big65 hu)) md_index (fun _ _ _ _ _ a b c => isLst_ty a b c) ho ha hbase hfew hline hs hplain
def fGet2 (o k x : PV) (S : Sto) : Res PV := match o with
  | .ref n => match S[n]? with
    | some (.dic kvs) => match pvKey k with
      | some k => .ok ((dGet kvs k).getD x) S
      | none => .bad
    | some (.fdic kvs) => match pvKey k with
      | some k => .ok ((dGet kvs k).getD x) S
      | none => .bad
    | _ => .bad
  | _ => .bad
def eGet2 (o a b : DE) : DE := fun en S => (o en S).bind fun x S1 => if isDic x S1 = true then (a en S1).bind fun y S2 => (b en S2).bind fun z S3 => fGet2 x y z S3 else .bad
def fSetd (o k x : PV) (S : Sto) : Res PV := match o with
  | .ref n => match S[n]? with
    | some (.dic kvs) => match pvKey k with
      | some k => if kvs.length < sizeLine then (match dGet kvs k with
        | some y => .ok y S
        | none => .ok x (S.set n (.dic (dPut kvs k x)))) else .bad
      | none => .bad
    | _ => .bad
  | _ => .bad
def eSetd (o a b : DE) : DE := fun en S => (o en S).bind fun x S1 => if isDic x S1 = true then (a en S1).bind fun y S2 => (b en S2).bind fun z S3 => fSetd x y z S3 else .bad
def eDict0 : DE := fun _ S => .ok (.ref S.length) (S ++ [.dic []])
theorem x_dict0 {pos : Pos} : GE X ca W (.Dict [] [] pos) eDict0 := pe_imp pe_dnewK fun s H Q ⟨rh, en, S, he, hs, hp⟩ p hpn => hp.new (m := .dic []) hs hpn ⟨[], upd_same, rfl⟩
theorem isDic_is {rh : List Addr} {H : Hp} {S : Sto} {x : PV} {v : V} (hs : SR X.K H rh S) (hx : VR X.K H rh x v) (h : isDic x S = true) : ∃ a, v = .ref a ∧ IsD H a := by
  unfold isDic at h
  split at h
  · split at h
    · rename_i q
      obtain ⟨a, ws, rfl, _, ha, _⟩ := hs.dic hx q
      exact ⟨a, rfl, .inl ⟨ws, .inl ha⟩⟩
    · rename_i q
      obtain ⟨a, ws, o, rfl, _, ha, _⟩ := hs.fdic hx q
      exact ⟨a, rfl, .inl ⟨ws, .inr ⟨o, ha⟩⟩⟩
    · cases h
  · cases h
variable {f : Expr} {ma mb : DE}
theorem x_get2 (hu : X.A.units + 100 < cLine) (ho : GE X ca W o mo) (ha : GE X ca W e ma) (hb : GE X ca W f mb)
    (m : M2 X o "get" apos e f cpos := by exact ⟨rfl, rfl, rfl, rfl⟩) : GE X ca W (.Call (.Attribute o "get" apos) [e, f] [] cpos) (eGet2 mo ma mb) := by
  refine pe_imp (pe_dget2 (big1 hu) ho ha hb m) fun s H Q ⟨rh, en, S, he, hs, hp⟩ => ?_
  refine (Post.bind he hs hp).mono fun v H1 ⟨rh1, x, S1, e1, he1, hs1, hx1, hp1⟩ => ?_
  split at hp1
  · rename_i c
    obtain ⟨a, rfl, hd⟩ := isDic_is hs1 hx1 c
    refine ⟨a, rfl, hd, ?_⟩
    refine (Post.bind he1 hs1 hp1).mono fun w H2 ⟨rh2, y, S2, e2, he2, hs2, hy2, hp2⟩ => ?_
    refine (Post.bind he2 hs2 hp2).mono fun u H3 ⟨rh3, z, S3, e3, he3, hs3, hz3, hp3⟩ => ?_
    have hx3 := VR.ext (e2.trans e3) _ _ hx1
    have hy3 := VR.ext e3 _ _ hy2
    have fin : ∀ (kvs : List (Key × PV)) (ws : List (Key × V)) (k : Key), Rd H3 a (.dK ws) → KRs X.K H3 rh3 kvs ws → pvKey y = some k → Post X.K ca W s rh3 H3 (.ok ((dGet kvs k).getD z) S3) Q → ∃ o, DGet H3 a w o ∧ Q (o.getD u) H3 := fun kvs ws k hr hw ek hq => by
      have ev := key_of hy3 ek
      subst ev
      rcases dGet_of k hw with ⟨g1, g2⟩ | ⟨x', v', g1, g2, g3⟩
      · rw [g1] at hq
        exact ⟨none, .inl ⟨ws, k, hr, rfl, g2.symm⟩, hq.same hs3 hz3⟩
      · rw [g1] at hq
        exact ⟨some v', .inl ⟨ws, k, hr, rfl, g2.symm⟩, hq.same hs3 g3⟩
    unfold fGet2 at hp3
    split at hp3
    · split at hp3
      · rename_i q
        obtain ⟨a', ws, ea, _, ha', hw⟩ := hs3.dic hx3 q
        cases ea
        split at hp3
        · rename_i k ek; exact fin _ ws k (.inl ha') hw ek hp3
        · exact hp3.elim
      · rename_i q
        obtain ⟨a', ws, o, ea, _, ha', hw⟩ := hs3.fdic hx3 q
        cases ea
        split at hp3
        · rename_i k ek; exact fin _ ws k (.inr ⟨o, ha'⟩) hw ek hp3
        · exact hp3.elim
      · exact hp3.elim
    · exact hp3.elim
  · exact hp1.elim
theorem x_setd (ho : GE X ca W o mo) (ha : GE X ca W e ma) (hb : GE X ca W f mb)
    (m : M2 X o "setdefault" apos e f cpos := by exact ⟨rfl, rfl, rfl, rfl⟩) : GE X ca W (.Call (.Attribute o "setdefault" apos) [e, f] [] cpos) (eSetd mo ma mb) := by
  refine pe_imp (pe_dsetd ho ha hb m) fun s H Q ⟨rh, en, S, he, hs, hp⟩ => ?_
  refine (Post.bind he hs hp).mono fun v H1 ⟨rh1, x, S1, e1, he1, hs1, hx1, hp1⟩ => ?_
  split at hp1
  · rename_i c
    obtain ⟨a, rfl, hd⟩ := isDic_is hs1 hx1 c
    refine ⟨a, rfl, hd, ?_⟩
    refine (Post.bind he1 hs1 hp1).mono fun w H2 ⟨rh2, y, S2, e2, he2, hs2, hy2, hp2⟩ => ?_
    refine (Post.bind he2 hs2 hp2).mono fun u H3 ⟨rh3, z, S3, e3, he3, hs3, hz3, hp3⟩ => ?_
    have hx3 := VR.ext (e2.trans e3) _ _ hx1
    have hy3 := VR.ext e3 _ _ hy2
    unfold fSetd at hp3
    split at hp3
    · split at hp3
      · rename_i kvs q
        obtain ⟨a', ws, ea, hra, ha', hw⟩ := hs3.dic hx3 q
        cases ea
        split at hp3
        · rename_i k ek
          have ev := key_of hy3 ek
          subst ev
          split at hp3
          · rename_i hl
            refine ⟨ws, k, ha', rfl, by rw [← hw.length]; exact hl, fun v' hv' => ?_, fun hn => ?_⟩
            · rcases dGet_of k hw with ⟨g1, g2⟩ | ⟨x', v2, g1, g2, g3⟩
              · rw [g2] at hv'; cases hv'
              · rw [g2] at hv'; cases hv'
                rw [g1] at hp3
                exact hp3.same hs3 g3
            · rcases dGet_of k hw with ⟨g1, g2⟩ | ⟨x', v2, g1, g2, g3⟩
              · rw [g1] at hp3
                have ex : Ext X.K rh3 H3 rh3 (upd H3 a (.dK (putK ws k u))) := Ext.write ha' (.inr ⟨_, rfl⟩)
                exact hp3 rh3 _ _ ex (hs3.write (m := .dic _) hra ha' (.inr ⟨_, rfl⟩) ⟨_, upd_same, KRs.ext ex _ _ (hw.put k hz3)⟩) (VR.ext ex _ _ hz3)
              · rw [g2] at hn; cases hn
          · exact hp3.elim
        · exact hp3.elim
      · exact hp3.elim
    · exact hp3.elim
  · exact hp1.elim
end

def fnD (np nl : Nat) (body : DS) : List PV → Sto → Res PV := fun xs S => if xs.length = np then (match body (xs.map some ++ List.replicate (nl - xs.length) none) S with
  | .next _ S' => .ok .non S'
  | .ret v S' => .ok v S'
  | .exc _ c f S' => .exc c f S'
  | _ => .bad) else .bad
/-- what a def promises -/
def spM (K : PySem.W.Frag) (ca : Nat → Addr) (m : List PV → Sto → Res PV) : Sp := fun vs H Q E => ∃ rh S xs, SR K H rh S ∧ VRs K H rh xs vs ∧ Post K ca (fun c d _ H => E c d H) [] rh H (m xs S) Q
/-- the callee stands under the name -/
structure Cal (P : Program) (w : World) (K : PySem.W.Frag) (mg : Str → Option Value) (base : Heap) (ca : Nat → Addr) (k : Nat) (x : Str) (ps : List Str) (ds : List Value) (m : List PV → Sto → Res PV) : Prop where
  ex : ∃ g gd, FnOk P w K mg base (L2.CX P w) k g gd ps (spM K ca m) ∧ mg x = some (.ref g) ∧ PySem.W.keepIn K (.ref g) = true ∧ Binds K gd ps ds
theorem start_er {K : PySem.W.Frag} {H : Hp} {rh : List Addr} {N : List Str} {xs : List PV} {vs : List V} (h : VRs K H rh xs vs) (hl : vs.length ≤ N.length) : ER K H rh (xs.map some ++ List.replicate (N.length - xs.length) none) (L2.start N vs) := by
  unfold L2.start
  refine ⟨by rw [List.length_append, List.length_append, List.length_map, List.length_map, List.length_replicate, List.length_replicate, h.length], fun i x e => ?_⟩
  by_cases hi : i < xs.length
  · rw [List.getElem?_append_left (by simpa using hi), List.getElem?_map] at e
    cases q : xs[i]? with
    | none => rw [q] at e; cases e
    | some y =>
      rw [q] at e
      have e' : y = x := by simpa using e
      subst e'
      obtain ⟨v, g1, g2⟩ := h.get q
      exact ⟨v, by rw [List.getElem?_append_left (by rw [List.length_map, ← h.length]; exact hi), List.getElem?_map, g1]; rfl, g2⟩
  · rw [List.getElem?_append_right (by simpa using Nat.le_of_not_lt hi), List.getElem?_replicate] at e
    split at e <;> cases e
section
variable {P : Program} {w : World} {K : PySem.W.Frag} {mg : Str → Option Value} {base : Heap} {ca : Nat → Addr}
theorem spM_len {np nl : Nat} {body : DS} {vs : List V} {H : Hp} {Q : VK} {E : XK} (h : spM K ca (fnD np nl body) vs H Q E) : vs.length = np := by
  obtain ⟨rh, S, xs, hs, hx, hp⟩ := h
  unfold fnD at hp
  split at hp
  · rename_i c
    rw [← hx.length]; exact c
  · exact hp.elim
theorem fn_ok {x qual : Str} {st : Stmt} {f : Addr} {fd : FuncData} {N ps : List Str} {k : Nat} {bd : DS} (F : Fun K x qual st f fd) (S : FnScope N ps (defScope st)) (np nl : Nat) (hnp : ps.length = np) (hnl : N.length = nl)
    (hb : ∀ (cdv : Value) (A : Around) (outer : List Env) (s : Shared) (H : Hp) (E : XK), Room k (A.deeper (envOfC qual (defScope st) s.heap.objs.size f cdv)) →
      GSs (cxOf (L2.CX P w) P w K mg base N qual (defScope st) f cdv A outer s H E) ca (fun c d _ H => E c d H) (defBody st) bd) : FnOk P w K mg base (L2.CX P w) (k + 1) f fd ps (spM K ca (fnD np nl bd)) := by
  subst hnp hnl
  have hpl : ps.length ≤ N.length := by have := congrArg List.length S.pre; rw [List.length_take] at this; omega
  refine F.okX S (fun vs H Q E h => spM_len h) fun cdv A outer s H vs Q E hr h => ?_
  have hl := spM_len h
  refine ⟨_, hb cdv A outer s H E hr, ?_⟩
  obtain ⟨rh, S0, xs, hs, hx, hp⟩ := h
  refine ⟨rh, xs.map some ++ List.replicate (N.length - xs.length) none, S0, start_er hx (by rw [hl]; exact hpl), hs, ?_⟩
  unfold fnD at hp
  split at hp
  · cases q : bd (xs.map some ++ List.replicate (N.length - xs.length) none) S0 with
    | next en S1 => rw [q] at hp; exact fun rh' H' s' e a b => hp rh' H' .non e b rfl
    | ret v S1 => rw [q] at hp; exact hp
    | brk en S1 => rw [q] at hp; exact hp.elim
    | cnt en S1 => rw [q] at hp; exact hp.elim
    | exc en c f' S1 => rw [q] at hp; exact fun rh' H' s' d e a b z => hp rh' H' d e b z
    | bad => rw [q] at hp; exact hp.elim
  · exact hp.elim
/-- nothing can be asked of what tells nothing -/
theorem fn_none {k : Nat} {f : Addr} {fd : FuncData} {ps : List Str} : FnOk P w K mg base (L2.CX P w) k f fd ps (spM K ca fun _ _ => .bad) := by
  have no : ∀ vs H Q E, ¬ spM K ca (fun _ _ => .bad) vs H Q E := fun vs H Q E ⟨_, _, _, _, _, h⟩ => h
  exact ⟨fun vs H Q E h => absurd h (no vs H Q E), fun A outer s H args us vs Q E _ _ _ _ h => absurd h (no vs H Q E)⟩
end
section
variable {X : Cx} {ca : Nat → Addr} {W : WX} {es : List Expr} {m : DA} {x : Str} {p pos : Pos} {e : Expr} {k : Nat} {ps : List Str} {ds : List Value} {dvs : List V} {dxs : List PV} {cl : List PV → Sto → Res PV}
/-- f(..), the defaults behind -/
theorem x_callD (C : Cal X.prog X.w X.K X.mg X.base ca k x ps ds cl) (tk : Takes X W) (hr : Room k X.A) (hg : Gl X x) (hd : Vals dvs ds) (hdx : ∀ H rh, VRs X.K H rh dxs dvs) (ha : GA X ca W (e :: es) m)
    (hdb : (x == ("__debug__" : Str)) = false := by decide) (he : starEach (e :: es) X.env = (false, eval e X.env) :: starEach es X.env := by rfl) (hpl : (backTo pos (starEach es X.env)).any (·.1) = false := by rfl) :
    GE X ca W (.Call (.Name x p) (e :: es) [] pos) (eFn (fun xs S => cl (xs ++ dxs) S) m) := by
  obtain ⟨g, gd, F, hm, hk, hb⟩ := C.ex
  refine pe_imp (pe_callSD F hr hg hm hk hb hd (fun σ => passAt tk σ) ha hdb he hpl) fun s H Q ⟨rh, en, S, her, hs, hp⟩ => ?_
  refine (Post.bindA her hs hp).mono fun vs H1 ⟨rh1, xs, S1, e1, he1, hs1, hx1, hp1⟩ => ?_
  refine ⟨rh1, S1, xs ++ dxs, hs1, hx1.append (hdx H1 rh1), ?_⟩
  simp only at hp1
  cases q : cl (xs ++ dxs) S1 with
  | ok v S2 => rw [q] at hp1; exact hp1
  | exc c f S2 => rw [q] at hp1; exact hp1
  | bad => rw [q] at hp1; exact hp1
theorem x_call (C : Cal X.prog X.w X.K X.mg X.base ca k x ps [] cl) (tk : Takes X W) (hr : Room k X.A) (hg : Gl X x) (ha : GA X ca W (e :: es) m)
    (hdb : (x == ("__debug__" : Str)) = false := by decide) (he : starEach (e :: es) X.env = (false, eval e X.env) :: starEach es X.env := by rfl) (hpl : (backTo pos (starEach es X.env)).any (·.1) = false := by rfl) :
    GE X ca W (.Call (.Name x p) (e :: es) [] pos) (eFn cl m) := by
  have h := x_callD (dvs := []) (dxs := []) (pos := pos) (p := p) C tk hr hg .nil (fun _ _ => rfl) ha hdb he hpl
  have e : eFn (fun xs S => cl (xs ++ []) S) m = eFn cl m := by
    funext en S
    simp only [eFn, List.append_nil]
  rw [e] at h
  exact h
theorem room_big {A : Around} {k : Nat} (hr : Room k A) : A.units + 100 < cLine := by have := hr.un; omega
end
end Dn
namespace Dn
open PySem PySem.Spec PyProof.Rows L2
section
variable {X : Cx} {ca : Nat → Addr} {W : WX} {a b c : Expr} {ma mb mc : DE} {ta tb tc : DT} {pos p p2 q : Pos} {es : List Expr} {m : DA}
theorem x_eq (hu : X.A.units + 100 < cLine) (ha : GE X ca W a ma) (hb : GE X ca W b mb) : GE X ca W (.Compare a [.Eq] [b] pos) (eTst (tCmp fEq ma mb)) := x_cmp (oq_eq hu) ob_eq ha hb (nomark _)
theorem x_ne (hu : X.A.units + 100 < cLine) (ha : GE X ca W a ma) (hb : GE X ca W b mb) : GE X ca W (.Compare a [.NotEq] [b] pos) (eTst (tCmp fNe ma mb)) := x_cmp (oq_ne hu) ob_ne ha hb (nomark _)
theorem x_lt (ha : GE X ca W a ma) (hb : GE X ca W b mb) : GE X ca W (.Compare a [.Lt] [b] pos) (eTst (tCmp fLt ma mb)) := x_cmp op_lt ob_lt ha hb (nomark _)
theorem x_le (ha : GE X ca W a ma) (hb : GE X ca W b mb) : GE X ca W (.Compare a [.LtE] [b] pos) (eTst (tCmp fLe ma mb)) := x_cmp op_le ob_le ha hb (nomark _)
theorem x_gt (ha : GE X ca W a ma) (hb : GE X ca W b mb) : GE X ca W (.Compare a [.Gt] [b] pos) (eTst (tCmp fGt ma mb)) := x_cmp op_gt ob_gt ha hb (nomark _)
theorem x_ge (ha : GE X ca W a ma) (hb : GE X ca W b mb) : GE X ca W (.Compare a [.GtE] [b] pos) (eTst (tCmp fGe ma mb)) := x_cmp op_ge ob_ge ha hb (nomark _)
theorem x_in (hu : X.A.units + 100 < cLine) (ha : GE X ca W a ma) (hb : GE X ca W b mb) (hm : behindInMarks .In b = false := by rfl) : GE X ca W (.Compare a [.In] [b] pos) (eTst (tCmp fIn ma mb)) := x_cmp (oq_in hu) ob_in ha hb hm
theorem x_notin (hu : X.A.units + 100 < cLine) (ha : GE X ca W a ma) (hb : GE X ca W b mb) (hm : behindInMarks .NotIn b = false := by rfl) : GE X ca W (.Compare a [.NotIn] [b] pos) (eTst (tCmp fNotIn ma mb)) := x_cmp (oq_notin hu) ob_notin ha hb hm
theorem x_isN (ha : GE X ca W a ma) (hb : GE X ca W b mb) : GE X ca W (.Compare a [.Is] [b] pos) (eTst (tCmp fIsN ma mb)) := x_cmp op_isN ob_isN ha hb (nomark _)
theorem x_notN (ha : GE X ca W a ma) (hb : GE X ca W b mb) : GE X ca W (.Compare a [.IsNot] [b] pos) (eTst (tCmp fNotN ma mb)) := x_cmp op_notN ob_notN ha hb (nomark _)
theorem t_eq (hu : X.A.units + 100 < cLine) (ha : GE X ca W a ma) (hb : GE X ca W b mb) : GT X ca W (.Compare a [.Eq] [b] pos) (tCmp fEq ma mb) := tst_cmp (oq_eq hu) ob_eq ha hb (nomark _)
theorem t_ne (hu : X.A.units + 100 < cLine) (ha : GE X ca W a ma) (hb : GE X ca W b mb) : GT X ca W (.Compare a [.NotEq] [b] pos) (tCmp fNe ma mb) := tst_cmp (oq_ne hu) ob_ne ha hb (nomark _)
theorem t_lt (ha : GE X ca W a ma) (hb : GE X ca W b mb) : GT X ca W (.Compare a [.Lt] [b] pos) (tCmp fLt ma mb) := tst_cmp op_lt ob_lt ha hb (nomark _)
theorem t_le (ha : GE X ca W a ma) (hb : GE X ca W b mb) : GT X ca W (.Compare a [.LtE] [b] pos) (tCmp fLe ma mb) := tst_cmp op_le ob_le ha hb (nomark _)
theorem t_gt (ha : GE X ca W a ma) (hb : GE X ca W b mb) : GT X ca W (.Compare a [.Gt] [b] pos) (tCmp fGt ma mb) := tst_cmp op_gt ob_gt ha hb (nomark _)
theorem t_ge (ha : GE X ca W a ma) (hb : GE X ca W b mb) : GT X ca W (.Compare a [.GtE] [b] pos) (tCmp fGe ma mb) := tst_cmp op_ge ob_ge ha hb (nomark _)
theorem t_in (hu : X.A.units + 100 < cLine) (ha : GE X ca W a ma) (hb : GE X ca W b mb) (hm : behindInMarks .In b = false := by rfl) : GT X ca W (.Compare a [.In] [b] pos) (tCmp fIn ma mb) := tst_cmp (oq_in hu) ob_in ha hb hm
theorem t_notin (hu : X.A.units + 100 < cLine) (ha : GE X ca W a ma) (hb : GE X ca W b mb) (hm : behindInMarks .NotIn b = false := by rfl) : GT X ca W (.Compare a [.NotIn] [b] pos) (tCmp fNotIn ma mb) := tst_cmp (oq_notin hu) ob_notin ha hb hm
theorem t_isN (ha : GE X ca W a ma) (hb : GE X ca W b mb) : GT X ca W (.Compare a [.Is] [b] pos) (tCmp fIsN ma mb) := tst_cmp op_isN ob_isN ha hb (nomark _)
theorem t_notN (ha : GE X ca W a ma) (hb : GE X ca W b mb) : GT X ca W (.Compare a [.IsNot] [b] pos) (tCmp fNotN ma mb) := tst_cmp op_notN ob_notN ha hb (nomark _)
/-- a name of the module that holds a constant -/
structure GC (K : PySem.W.Frag) (mg : Str → Option Value) (x : Str) (c : PV) : Prop where
  ex : ∃ u v, mg x = some u ∧ RelV v u ∧ ∀ H rh, VR K H rh c v
theorem x_glob {x : Str} {c : PV} (G : GC X.K X.mg x c) (hg : Gl X x) (hd : (x == ("__debug__" : Str)) = false := by decide) : GE X ca W (.Name x pos) (eC c) := by
  obtain ⟨u, v, h1, h2, h3⟩ := G.ex
  exact x_c (pe_glob hg h1 h2 hd) h3
/-- a built-in type as a value -/
theorem x_ty {x : Str} {T : String} (hg : Gl X x) (hm : X.mg x = none) (hv : bootBuiltins x = some (.type T)) (hn : x ≠ "__name__" := by decide) (hd : (x == ("__debug__" : Str)) = false := by decide) : GE X ca W (.Name x pos) (eC (.ty T)) :=
  x_c (pe_bltn (v := .ty T) hg hm hv rfl hn hd) fun _ _ => rfl
theorem x_len (hg : Gl X "len") (hm : X.mg "len" = none) (ha : GA X ca W (a :: es) m) (he : starEach (a :: es) X.env = (false, eval a X.env) :: starEach es X.env := by rfl) (hpl : (backTo pos (starEach es X.env)).any (·.1) = false := by rfl) :
    GE X ca W (.Call (.Name "len" p) (a :: es) [] pos) (eFn fLen m) := x_callB (call_len.or call_lenD) fd_len hg hm PySem.boot_len ha (by decide) (by decide) he hpl
theorem x_tuple (hg : Gl X "tuple") (hm : X.mg "tuple" = none) (ha : GA X ca W (a :: es) m) (he : starEach (a :: es) X.env = (false, eval a X.env) :: starEach es X.env := by rfl) (hpl : (backTo pos (starEach es X.env)).any (·.1) = false := by rfl) :
    GE X ca W (.Call (.Name "tuple" p) (a :: es) [] pos) (eFn fTuple m) := x_callTy call_tupleX fd_tuple hg hm (by decide +kernel) ha (by decide) (by decide) he hpl
theorem x_list (hg : Gl X "list") (hm : X.mg "list" = none) (ha : GA X ca W (a :: es) m) (he : starEach (a :: es) X.env = (false, eval a X.env) :: starEach es X.env := by rfl) (hpl : (backTo pos (starEach es X.env)).any (·.1) = false := by rfl) :
    GE X ca W (.Call (.Name "list" p) (a :: es) [] pos) (eFn fList m) := x_callTy call_list_of fd_list hg hm (by decide +kernel) ha (by decide) (by decide) he hpl
theorem x_intF (hg : Gl X "int") (hm : X.mg "int" = none) (ha : GA X ca W (a :: es) m) (he : starEach (a :: es) X.env = (false, eval a X.env) :: starEach es X.env := by rfl) (hpl : (backTo pos (starEach es X.env)).any (·.1) = false := by rfl) :
    GE X ca W (.Call (.Name "int" p) (a :: es) [] pos) (eFn fInt m) := x_callTy call_int1 fd_int hg hm (by decide +kernel) ha (by decide) (by decide) he hpl
theorem x_sorted (hc : X.calm = true) (hg : Gl X "sorted") (hm : X.mg "sorted" = none) (ha : GA X ca W (a :: es) m) (he : starEach (a :: es) X.env = (false, eval a X.env) :: starEach es X.env := by rfl) (hpl : (backTo pos (starEach es X.env)).any (·.1) = false := by rfl) :
    GE X ca W (.Call (.Name "sorted" p) (a :: es) [] pos) (eFn fSorted m) := x_callB (cr_sortedS.or (L2.call_sortedD hc)) fd_sorted hg hm (by decide +kernel) ha (by decide) (by decide) he hpl
theorem x_isi (hg : Gl X "isinstance") (hm : X.mg "isinstance" = none) (ha : GA X ca W (a :: es) m) (he : starEach (a :: es) X.env = (false, eval a X.env) :: starEach es X.env := by rfl) (hpl : (backTo pos (starEach es X.env)).any (·.1) = false := by rfl) :
    GE X ca W (.Call (.Name "isinstance" p) (a :: es) [] pos) (eFn fIsi m) := x_callB call_isi fd_isi hg hm (by decide +kernel) ha (by decide) (by decide) he hpl
/-- len(set(texts)), none or one -/
def fLenSet (x : PV) (S : Sto) : Res PV := match x with
  | .ref n => match S[n]? with
    | some (.lst ys) => match strsOf ys with
      | some zs => if zs.length ≤ 1 then .ok (.int zs.length) S else .bad
      | none => .bad
    | _ => .bad
  | _ => .bad
theorem x_lenSet (hc : X.calm = true) (hg : Gl X "len") (hm : X.mg "len" = none) (hg2 : Gl X "set") (hm2 : X.mg "set" = none) (ha : GE X ca W a ma) (na : starEach [a] X.env = (false, eval a X.env) :: starEach [] X.env := by rfl) :
    GE X ca W (.Call (.Name "len" p) [.Call (.Name "set" p2) [a] [] q] [] pos) (eUn fLenSet ma) := by
  refine pe_imp (pe_lenSet hc hg hm hg2 hm2 ha na) fun s H Q ⟨rh, en, S, he, hs, hp⟩ => ?_
  refine (Post.bind he hs hp).mono fun v H1 ⟨rh1, x, S1, e1, he1, hs1, hx1, hp1⟩ => ?_
  unfold fLenSet at hp1
  split at hp1
  · split at hp1
    · rename_i q
      obtain ⟨a, vs, rfl, _, ha, hv⟩ := hs1.lst hx1 q
      split at hp1
      · rename_i zs ez
        have ev := strsOf_of hv ez
        subst ev
        split at hp1
        · rename_i c
          exact ⟨a, zs, rfl, .inl (SqL.of ha), c, hp1.same hs1 rfl⟩
        · exact hp1.elim
      · exact hp1.elim
    · exact hp1.elim
  · exact hp1.elim
end
def pairsOf : List PV → Option (List (Key × PV))
  | [] => some []
  | .tup [k, x] :: r => match pvKey k with
    | some k => (pairsOf r).map ((k, x) :: ·)
    | none => none
  | _ :: _ => none
def dMerge (kvs more : List (Key × PV)) : List (Key × PV) := more.foldl (fun acc p => dPut acc p.1 p.2) kvs
def fDict (xs : List PV) (S : Sto) : Res PV := match xs with
  | [.tup ys] => match pairsOf ys with
    | some kvs => .ok (.ref S.length) (S ++ [.dic (dMerge [] kvs)])
    | none => .bad
  | [.ref n] => match S[n]? with
    | some (.dic kvs) => .ok (.ref S.length) (S ++ [.dic kvs])
    | some (.fdic kvs) => .ok (.ref S.length) (S ++ [.dic kvs])
    | some (.lst ys) => match pairsOf ys with
      | some kvs => .ok (.ref S.length) (S ++ [.dic (dMerge [] kvs)])
      | none => .bad
    | none => .bad
  | _ => .bad
theorem KRs.merge {K : PySem.W.Frag} {H : Hp} {rh : List Addr} : ∀ {more : List (Key × PV)} {ms : List (Key × V)} {kvs : List (Key × PV)} {ws : List (Key × V)}, KRs K H rh more ms → KRs K H rh kvs ws → KRs K H rh (dMerge kvs more) (mergeK ws ms)
  | [], _, _, _, h, h' => by cases h; exact h'
  | p :: more, ms, kvs, ws, h, h' => by
    obtain ⟨v, r, rfl, h1, h2⟩ := h
    have ih := KRs.merge h2 (h'.put p.1 h1)
    exact ih
theorem pairsX {X : Cx} {pins : List (Addr × Obj)} {sg : L2.St} {H : Hp} {s : Shared} (I : Inv X pins sg H s) : ∀ {ps : List Addr} {kvs : List (Key × V)}, Paired (fun p kv => SqT X.K H p [kV kv.1, kv.2]) ps kvs →
    ∃ (prs : List (Key × Value)) (qs : List (Value × Value)), KV kvs prs ∧ qs.length = ps.length ∧ prs.length = ps.length ∧ ∀ (j : Nat) (k v : Value), qs[j]? = some (k, v) → ∃ (b : Addr) (key : Key), ps[j]? = some b ∧ PairAt s.heap b k v ∧ prs[j]? = some (key, v) ∧ keyIs key k = true
  | _, _, .nil => ⟨[], [], .nil, rfl, rfl, fun j k v e => by simp at e⟩
  | _, _, .cons (a := p) (b := kv) h t => by
    obtain ⟨prs, qs, r, hl, hl2, hp⟩ := pairsX I t
    obtain ⟨its, rv, ht, _⟩ := I.tuple h
    obtain ⟨u, y, ei, ru, ry⟩ := vals2 rv
    subst ei
    refine ⟨(kv.1, y) :: prs, (u, y) :: qs, .cons ⟨rfl, ry⟩ r, by rw [List.length_cons, List.length_cons, hl], by rw [List.length_cons, List.length_cons, hl2], fun j k v e => ?_⟩
    cases j with
    | zero =>
      have e' : (u, y) = (k, v) := Option.some.inj e
      cases e'
      exact ⟨p, kv.1, rfl, .inl (show s.heap.IsTuple p #[u, y] from ht), rfl, kV_is (P := X.prog) (w := X.w) ru⟩
    | succ j =>
      obtain ⟨b, key, e1, e2, e3, e4⟩ := hp j k v (by simpa using e)
      exact ⟨b, key, by simpa using e1, e2, by simpa using e3, e4⟩
def rDictX (K : PySem.W.Frag) : List V → Hp → VK → Prop := fun xs H Q => (∃ a kvs, xs = [.ref a] ∧ Rd H a (.dK kvs) ∧ ∀ p, H p = none → Q (.ref p) (upd H p (.dK kvs))) ∨
  ∃ (a : Addr) (ps : List Addr) (kvs : List (Key × V)), xs = [.ref a] ∧ (SqX K H a (ps.map V.ref) ∨ SqL K H a (ps.map V.ref)) ∧ Paired (fun p kv => SqT K H p [kV kv.1, kv.2]) ps kvs ∧ ∀ p, H p = none → Q (.ref p) (upd H p (.dK (mergeK [] kvs)))
theorem call_dictX {X : Cx} (hcalm : X.calm = true) : CallR X (.type "dict") (rDictX X.K) := by
  intro pins s sg H xs us Q I r h
  rcases h with ⟨a, kvs, rfl, hr, q⟩ | ⟨a, ps, kvs, rfl, hq, hp, q⟩
  · obtain ⟨u, rfl, rx⟩ := vals1 r
    cases rx
    exact d_copyOf I hr fun p s' hpn I' => ⟨.ref p, _, I', rfl, q p hpn⟩
  · obtain ⟨u, rfl, rx⟩ := vals1 r
    cases rx
    obtain ⟨prs, qs, rel, hl, hl2, hpr⟩ := pairsX I hp
    have bigS : (s.heap.objs.size == sysModules) = false := beq_eq_false_iff_ne.mpr (Nat.ne_of_gt I.big)
    have fin : ∀ (h' : Heap) (tk : Nat), prs.length ≤ sizeLine → h'.DictOf (mixKind X.prog X.w) s.heap.objs.size (merged [] prs) → (∀ b o, b ∉ ([] : List Addr) → s.heap.get? b = some o → h'.get? b = some o) → EP X pins sg Q (.ref s.heap.objs.size) { s with heap := h', toks := tk } := fun h' tk hz hd' k => by
      have hlen : (mergeK [] kvs).length ≤ sizeLine := by
        refine Nat.le_trans (length_mergeK kvs []) ?_
        rw [List.length_nil, Nat.zero_add, rel.length]
        exact hz
      exact ⟨.ref s.heap.objs.size, upd H s.heap.objs.size (.dK (mergeK [] kvs)), I.laid (t' := tk) (fun b o e => k b o (by simp) e) (Nat.le_refl _) (show ObjOk X.prog X.w _ _ _ (.dK (mergeK [] kvs)) from ⟨hlen, bigS, merged [] prs, KV.merge rel .nil, hd'⟩), rfl, q _ (I.hok.fresh (Nat.le_refl _))⟩
    have items : ∀ its : List Value, its = ps.map Value.ref → PairItems s.heap its.toArray (fun j => ps.getD j 0) qs := fun its e => by
      subst e
      refine ⟨by simp [hl], fun j k v e => ?_⟩
      obtain ⟨b, key, e1, e2, _, _⟩ := hpr j k v e
      have eb : ps.getD j 0 = b := by simp [List.getD, e1]
      refine ⟨by simp [e1], ?_⟩
      show PairAt s.heap (ps.getD j 0) k v
      rw [eb]
      exact e2
    have have_ : PairsHave (mixKind X.prog X.w) qs.length (PairRel qs) prs := ⟨by rw [hl2, hl], fun i k v e => by
      obtain ⟨b, key, _, _, e3, e4⟩ := hpr i k v e
      exact ⟨key, e3, e4⟩⟩
    rcases hq with hq | hq
    · have hx : ∃ its : List Value, Vals (ps.map V.ref) its ∧ PlainSeq "tuple" s.heap a its.toArray ∧ its.length ≤ sizeLine := by
        rcases hq with ⟨o, ho, hd⟩ | ⟨o, its, n, ho, hc, hd, hdat, hz, r⟩
        · obtain ⟨e, z, its, r, o', e', hc, n, hdat⟩ := I.hok a _ ho
          rw [e] at e'; cases e'
          exact ⟨its, r, ⟨o, n, e, hc, hd, hdat⟩, by rw [← r.length]; exact z⟩
        · exact ⟨its.toList, r, ⟨o, n, I.kIn a o ho, hc, hd, by simpa using hdat⟩, by simpa using hz⟩
      obtain ⟨its, rv, hpl, hz⟩ := hx
      have ei := refs_at rv
      have hz' : qs.length ≤ sizeLine := by rw [hl]; rw [ei] at hz; simpa using hz
      exact call_dict_pairs (knd := mixKind X.prog X.w) (PairArg.tuple a its.toArray (fun j => ps.getD j 0) qs) (I.ok.hd hcalm) ⟨hpl, items its ei⟩ have_ hz' fun h' tk hd' k => fin h' tk (by rw [hl2, ← hl]; exact hz') hd' k
    · obtain ⟨its, rv, ⟨o, n, ho, hc, hd, hdat⟩, hz⟩ := I.list hq
      have ei := refs_at rv
      have hz' : qs.length ≤ sizeLine := by rw [hl]; simpa using hz
      exact call_dict_pairs (knd := mixKind X.prog X.w) (PairArg.list a its.toArray (fun j => ps.getD j 0) qs) (I.ok.hd hcalm) ⟨⟨o, n, ho, hc, hd, hdat⟩, items its ei⟩ have_ hz' fun h' tk hd' k => fin h' tk (by rw [hl2, ← hl]; exact hz') hd' k
theorem pairsOf_of {K : PySem.W.Frag} {H : Hp} {rh : List Addr} : ∀ {ys : List PV} {vs : List V} {kvs : List (Key × PV)}, VRs K H rh ys vs → pairsOf ys = some kvs → ∃ (ps : List Addr) (ws : List (Key × V)), vs = ps.map V.ref ∧ Paired (fun p kv => SqT K H p [kV kv.1, kv.2]) ps ws ∧ KRs K H rh kvs ws
  | [], vs, kvs, h, e => by
    cases h
    have e' : ([] : List (Key × PV)) = kvs := by simpa [pairsOf] using e
    subst e'
    exact ⟨[], [], rfl, .nil, rfl⟩
  | y :: ys, vs, kvs, h, e => by
    obtain ⟨v, r, rfl, h1, h2⟩ := h
    unfold pairsOf at e
    split at e
    · rename_i q
      cases q
    · rename_i k x r' q
      injection q with q1 q2
      subst q1 q2
      split at e
      · rename_i key ek
        cases q3 : pairsOf ys with
        | none => rw [q3] at e; cases e
        | some w =>
          rw [q3] at e
          have e' : (key, x) :: w = kvs := Option.some.inj e
          subst e'
          obtain ⟨ps, ws, rfl, g1, g2⟩ := pairsOf_of h2 q3
          obtain ⟨a, us, rfl, ha, u1, r1, rfl, hk, u2, r2, rfl, hx, hn⟩ := h1
          cases hn
          have ev := key_of hk ek
          subst ev
          exact ⟨a :: ps, (key, u2) :: ws, rfl, .cons ha.sq g1, u2, ws, rfl, hx, g2⟩
      · cases e
    · cases e
theorem fd_dict {K : PySem.W.Frag} {ca : Nat → Addr} : FnD K ca fDict (rDictX K) := by
  intro W s rh H S xs vs Q hs hx h
  unfold fDict at h
  split at h
  · obtain ⟨v, r, rfl, h1, h2⟩ := hx
    cases h2
    split at h
    · rename_i kvs ek
      obtain ⟨a, vs, rfl, ha, hv⟩ := h1
      obtain ⟨ps, ws, rfl, g1, g2⟩ := pairsOf_of hv ek
      refine .inr ⟨a, ps, ws, rfl, .inl ha, g1, fun p hp => ?_⟩
      exact h.new (m := .dic _) hs hp ⟨_, upd_same, KRs.ext (Ext.new hp [p]) _ _ (KRs.merge g2 (show KRs K H rh [] [] from rfl))⟩
    · exact h.elim
  · obtain ⟨v, r, rfl, h1, h2⟩ := hx
    cases h2
    split at h
    · rename_i q
      obtain ⟨a, ws, rfl, _, ha, hw⟩ := hs.dic h1 q
      exact .inl ⟨a, ws, rfl, .inl ha, fun p hp => h.new (m := .dic _) hs hp ⟨_, upd_same, KRs.ext (Ext.new hp [p]) _ _ hw⟩⟩
    · rename_i q
      obtain ⟨a, ws, o, rfl, _, ha, hw⟩ := hs.fdic h1 q
      exact .inl ⟨a, ws, rfl, .inr ⟨o, ha⟩, fun p hp => h.new (m := .dic _) hs hp ⟨_, upd_same, KRs.ext (Ext.new hp [p]) _ _ hw⟩⟩
    · rename_i q
      obtain ⟨a, vs, rfl, _, ha, hv⟩ := hs.lst h1 q
      split at h
      · rename_i kvs ek
        obtain ⟨ps, ws, rfl, g1, g2⟩ := pairsOf_of hv ek
        refine .inr ⟨a, ps, ws, rfl, .inr (SqL.of ha), g1, fun p hp => ?_⟩
        exact h.new (m := .dic _) hs hp ⟨_, upd_same, KRs.ext (Ext.new hp [p]) _ _ (KRs.merge g2 (show KRs K H rh [] [] from rfl))⟩
      · exact h.elim
    · exact h.elim
  · exact h.elim
section
variable {X : Cx} {ca : Nat → Addr} {W : WX} {a e : Expr} {es : List Expr} {m : DA} {p pos : Pos} {x : Str} {k : Nat} {ps : List Str} {dvs : List V} {dxs : List PV} {cl : List PV → Sto → Res PV}
theorem x_dictF (hc : X.calm = true) (hg : Gl X "dict") (hm : X.mg "dict" = none) (ha : GA X ca W (a :: es) m) (he : starEach (a :: es) X.env = (false, eval a X.env) :: starEach es X.env := by rfl) (hpl : (backTo pos (starEach es X.env)).any (·.1) = false := by rfl) :
    GE X ca W (.Call (.Name "dict" p) (a :: es) [] pos) (eFn fDict m) := x_callTy (call_dictX hc) fd_dict hg hm (by decide +kernel) ha (by decide) (by decide) he hpl
/-- f(..) where defaults fill up -/
theorem x_callE (C : ∃ ds, Vals dvs ds ∧ Cal X.prog X.w X.K X.mg X.base ca k x ps ds cl) (tk : Takes X W) (hr : Room k X.A) (hg : Gl X x) (hdx : ∀ H rh, VRs X.K H rh dxs dvs) (ha : GA X ca W (e :: es) m)
    (hdb : (x == ("__debug__" : Str)) = false := by decide) (he : starEach (e :: es) X.env = (false, eval e X.env) :: starEach es X.env := by rfl) (hpl : (backTo pos (starEach es X.env)).any (·.1) = false := by rfl) :
    GE X ca W (.Call (.Name x p) (e :: es) [] pos) (eFn (fun xs S => cl (xs ++ dxs) S) m) := by
  obtain ⟨ds, hd, C⟩ := C
  exact x_callD C tk hr hg hd hdx ha hdb he hpl
end
/-- a callee as it stands -/
theorem fnC {P : Program} {w : World} {K : PySem.W.Frag} {mg : Str → Option Value} {base : Heap} {ca : Nat → Addr} {k : Nat} {x : Str} {ps : List Str} {ds : List Value} {f : Addr} {fd : FuncData} {m : List PV → Sto → Res PV}
    (F : FnOk P w K mg base (L2.CX P w) k f fd ps (spM K ca m)) (hm : mg x = some (.ref f)) (hk : PySem.W.keepIn K (.ref f) = true) (hb : Binds K fd ps ds) : Cal P w K mg base ca k x ps ds m := ⟨f, fd, F, hm, hk, hb⟩
section
variable {P : Program} {w : World} {K : PySem.W.Frag} {mg : Str → Option Value} {base : Heap} {ca : Nat → Addr}
/-- as fn_ok, for a def with defaults -/
theorem fn_okD {x qual : Str} {st : Stmt} {f : Addr} {fd : FuncData} {N ps : List Str} {k : Nat} {bd : DS} {dvs : List V} {kws : List (Str × V)} (F : FunD K x qual (defArgs st) (defBody st) (defScope st) dvs kws f fd) (S : FnScope N ps (defScope st)) (np nl : Nat) (hnp : ps.length = np) (hnl : N.length = nl)
    (hb : ∀ (cdv : Value) (A : Around) (outer : List Env) (s : Shared) (H : Hp) (E : XK), Room k (A.deeper (envOfC qual (defScope st) s.heap.objs.size f cdv)) →
      GSs (cxOf (L2.CX P w) P w K mg base N qual (defScope st) f cdv A outer s H E) ca (fun c d _ H => E c d H) (defBody st) bd) : FnOk P w K mg base (L2.CX P w) (k + 1) f fd ps (spM K ca (fnD np nl bd)) := by
  subst hnp hnl
  have hpl : ps.length ≤ N.length := by have := congrArg List.length S.pre; rw [List.length_take] at this; omega
  refine F.ok S (fun vs H Q E h => spM_len h) fun cdv A outer s H vs Q E hr h => ?_
  have hl := spM_len h
  refine ⟨_, hb cdv A outer s H E hr, ?_⟩
  obtain ⟨rh, S0, xs, hs, hx, hp⟩ := h
  refine ⟨rh, xs.map some ++ List.replicate (N.length - xs.length) none, S0, start_er hx (by rw [hl]; exact hpl), hs, ?_⟩
  unfold fnD at hp
  split at hp
  · cases q : bd (xs.map some ++ List.replicate (N.length - xs.length) none) S0 with
    | next en S1 => rw [q] at hp; exact fun rh' H' s' e a b => hp rh' H' .non e b rfl
    | ret v S1 => rw [q] at hp; exact hp
    | brk en S1 => rw [q] at hp; exact hp.elim
    | cnt en S1 => rw [q] at hp; exact hp.elim
    | exc en c f' S1 => rw [q] at hp; exact fun rh' H' s' d e a b z => hp rh' H' d e b z
    | bad => rw [q] at hp; exact hp.elim
  · exact hp.elim
/-- the law's promise -/
def spLaw (K : PySem.W.Frag) : Sp := fun vs H Q _ => ∃ (a : Addr) (ns : List Int), vs = [.ref a] ∧ SqR K H a (ns.map V.int) ∧ ns.length ≤ 63 ∧ ∀ H', Q (.bl true) H'
theorem VRs_ints {rh : List Addr} {H : Hp} : ∀ ns : List Int, VRs K H rh (ns.map PV.int) (ns.map V.int)
  | [] => rfl
  | n :: ns => ⟨.int n, ns.map V.int, rfl, rfl, VRs_ints ns⟩
/-- where the plain run of the law is True for each script, the law keeps its promise -/
theorem law_of {k : Nat} {f : Addr} {fd : FuncData} {ps : List Str} {m : List PV → Sto → Res PV} (F : FnOk P w K mg base (L2.CX P w) k f fd ps (spM K ca m)) (h : ∀ ns : List Int, ns.length ≤ 63 → ∃ S', m [.rol (ns.map PV.int)] [] = .ok (.bl true) S') :
    FnOk P w K mg base (L2.CX P w) k f fd ps (spLaw K) := F.imp fun vs H Q E ⟨a, ns, hv, hq, hl, q⟩ => by
  subst hv
  obtain ⟨S', e⟩ := h ns hl
  refine ⟨[], [], [.rol (ns.map PV.int)], ⟨rfl, by simp, fun i b mo e1 e2 => by simp at e1⟩, ⟨.ref a, [], rfl, ⟨a, _, rfl, hq, VRs_ints ns⟩, rfl⟩, ?_⟩
  rw [e]
  exact fun rh' H' v _ _ hv => by cases hv; exact q H'
/-- the script as the head hands it -/
theorem sqR_of {H : Hp} {a : Addr} {xs : List V} (hO : Only H) (h : SqL K H a xs) : SqR K H a xs := by
  rcases h with (h | ⟨o, h⟩) | h
  · rcases hO a with q | ⟨o, ys, q⟩
    · rw [h] at q; cases q
    · rw [h] at q; cases q
  · exact .inl ⟨o, h⟩
  · exact .inr h
end
end Dn
namespace Pg
open PySem L2 Dn
def c_LEAVES : PV := .tup [.str "num", .str "name", .str "ask", .str "stop", .str "gap"]
def c_LETTERS : PV := .str "abcdefghijklmnopqrstuvwxyz"
def c_LOUD : PV := .tup [.str "say", .str "ask", .str "stop"]
/-- names_free_names(tree); 0 tree, 1 found -/
def b_names_free_names (f_names_gather : List PV → Sto → Res PV) (wf : Nat) : DS :=
  sSeq (sSet 1 (eDict0)) (sSeq (sExpr (eFn f_names_gather (aCons (eVar 0) (aCons (eTup (aNil)) (aCons (eVar 1) (aNil)))))) (sRet (eFn fSorted (aCons (eVar 1) (aNil)))))
/-- names_gather(tree, bound, found); 0 tree, 1 bound, 2 found, 3 atom, 4 part -/
def b_names_gather (f_names_gather f_trees_parts : List PV → Sto → Res PV) (wf : Nat) : DS :=
  sSeq (sIf (tAnd (tCmp fEq (eBin fIx (eVar 0) (eC (.int 0))) (eC (.str "name"))) (tCmp fNotIn (eBin fIx (eVar 0) (eC (.int 1))) (eVar 1))) (sPut (eVar 2) (eBin fIx (eVar 0) (eC (.int 1))) (eC (.bl true))) (sNil)) (sSeq (sIf (tCmp fEq (eBin fIx (eVar 0) (eC (.int 0))) (eC (.str "gap"))) (sFor (pIter (eBin fIx (eVar 0) (eC (.int 2)))) (gN 3) (sIf (tAnd (tCmp fEq (eBin fIx (eVar 3) (eC (.int 0))) (eC (.str "name"))) (tCmp fNotIn (eBin fIx (eVar 3) (eC (.int 1))) (eVar 1))) (sPut (eVar 2) (eBin fIx (eVar 3) (eC (.int 1))) (eC (.bl true))) (sNil))) (sNil)) (sSeq (sIf (tCmp fEq (eBin fIx (eVar 0) (eC (.int 0))) (eC (.str "let"))) (sSeq (sExpr (eFn f_names_gather (aCons (eBin fIx (eVar 0) (eC (.int 2))) (aCons (eVar 1) (aCons (eVar 2) (aNil)))))) (sSeq (sExpr (eFn f_names_gather (aCons (eBin fIx (eVar 0) (eC (.int 3))) (aCons (eBin fAdd (eVar 1) (eTup (aCons (eBin fIx (eVar 0) (eC (.int 1))) (aNil)))) (aCons (eVar 2) (aNil)))))) (sRetN))) (sNil)) (sFor (pIter (eFn f_trees_parts (aCons (eVar 0) (aNil)))) (gN 4) (sExpr (eFn f_names_gather (aCons (eVar 4) (aCons (eVar 1) (aCons (eVar 2) (aNil)))))))))
/-- names_word_by(number); 0 number, 1 word -/
def b_names_word_by (wf : Nat) : DS :=
  sSeq (sSet 1 (eBin fIx (eC c_LETTERS) (eBin fMod (eVar 0) (eC (.int 26))))) (sSeq (whileRun (tCmp fGe (eVar 0) (eC (.int 26))) (sSeq (sSet 0 (eBin fSub (eBin fDiv (eVar 0) (eC (.int 26))) (eC (.int 1)))) (sSet 1 (eBin fAdd (eBin fIx (eC c_LETTERS) (eBin fMod (eVar 0) (eC (.int 26)))) (eVar 1)))) wf) (sRet (eVar 1)))
/-- reading_has_let(tree); 0 tree, 1 part -/
def b_reading_has_let (f_reading_has_let f_trees_parts : List PV → Sto → Res PV) (wf : Nat) : DS :=
  sSeq (sIf (tCmp fEq (eBin fIx (eVar 0) (eC (.int 0))) (eC (.str "let"))) (sRet (eC (.bl true))) (sNil)) (sSeq (sFor (pIter (eFn f_trees_parts (aCons (eVar 0) (aNil)))) (gN 1) (sIf (tVal (eFn f_reading_has_let (aCons (eVar 1) (aNil)))) (sRet (eC (.bl true))) (sNil))) (sRet (eC (.bl false))))
/-- reading_kind_for(row); 0 row, 1 tree -/
def b_reading_kind_for (f_rules_is_quiet : List PV → Sto → Res PV) (wf : Nat) : DS :=
  sSeq (sIf (tCmp fEq (eFn fLen (aCons (eLc (pIter (eVar 0)) (gN 1) (tCmp fNe (eBin fIx (eVar 1) (eC (.int 0))) (eC (.str "num"))) (eVar 1)) (aNil))) (eC (.int 0))) (sRet (eC (.str "number"))) (sNil)) (sSeq (sIf (tCmp fEq (eFn fLen (aCons (eLc (pIter (eVar 0)) (gN 1) (tNot (tVal (eFn (fun xs S => f_rules_is_quiet (xs ++ [.non]) S) (aCons (eVar 1) (aNil))))) (eVar 1)) (aNil))) (eC (.int 0))) (sRet (eC (.str "quiet"))) (sNil)) (sRet (eC .non)))
/-- reading_look_at_pairs(pairs); 0 pairs, 1 before, 2 behind -/
def b_reading_look_at_pairs (f_reading_has_let : List PV → Sto → Res PV) (wf : Nat) : DS :=
  sSeq (sIf (tOr (tCmp fEq (eFn fLen (aCons (eVar 0) (aNil))) (eC (.int 0))) (tCmp fGt (eFn fLen (aCons (eVar 0) (aNil))) (eC (.int 8)))) (sBad) (sNil)) (sFor (pIter (eVar 0)) (gT [1, 2]) (sIf (tOr (tVal (eFn f_reading_has_let (aCons (eVar 1) (aNil)))) (tVal (eFn f_reading_has_let (aCons (eVar 2) (aNil))))) (sBad) (sNil)))
/-- reading_read_off(pairs); 0 pairs, 1 rows, 2 left, 3 pair, 4 right, 5 kinds, 6 number, 7 row, 8 rule, 9 gap -/
def b_reading_read_off (f_names_word_by f_reading_kind_for f_reading_look_at_pairs f_reading_shared_shape f_rules_form : List PV → Sto → Res PV) (wf : Nat) : DS :=
  sSeq (sExpr (eFn f_reading_look_at_pairs (aCons (eVar 0) (aNil)))) (sSeq (sSet 1 (eLst (aNil))) (sSeq (sSet 2 (eFn f_reading_shared_shape (aCons (eLc (pIter (eVar 0)) (gN 3) (tYesP) (eBin fIx (eVar 3) (eC (.int 0)))) (aCons (eVar 1) (aNil))))) (sSeq (sSet 4 (eFn f_reading_shared_shape (aCons (eLc (pIter (eVar 0)) (gN 3) (tYesP) (eBin fIx (eVar 3) (eC (.int 1)))) (aCons (eVar 1) (aNil))))) (sSeq (sSet 5 (eDict0)) (sSeq (sFor (pEnum (aCons (eVar 1) (aNil))) (gT [6, 7]) (sIf (tCmp fNotN (eFn f_reading_kind_for (aCons (eVar 7) (aNil))) (eC .non)) (sPut (eVar 5) (eBin fAdd (eC (.str "g")) (eFn f_names_word_by (aCons (eVar 6) (aNil)))) (eFn f_reading_kind_for (aCons (eVar 7) (aNil)))) (sNil))) (sSeq (sSet 8 (eTup (aCons (eVar 2) (aCons (eVar 4) (aCons (eFn fTuple (aCons (eLc (pIter (eFn fSorted (aCons (eVar 5) (aNil)))) (gN 9) (tYesP) (eTup (aCons (eVar 9) (aCons (eBin fIx (eVar 5) (eVar 9)) (aNil))))) (aNil))) (aNil)))))) (sSeq (sExpr (eFn f_rules_form (aCons (eVar 8) (aNil)))) (sRet (eVar 8)))))))))
/-- reading_same_heads(row); 0 row, 1 first, 2 tree -/
def b_reading_same_heads (wf : Nat) : DS :=
  sSeq (sSet 1 (eBin fIx (eVar 0) (eC (.int 0)))) (sSeq (sFor (pIter (eVar 0)) (gN 2) (sIf (tOr (tCmp fNe (eBin fIx (eVar 2) (eC (.int 0))) (eBin fIx (eVar 1) (eC (.int 0)))) (tAnd (tCmp fIn (eBin fIx (eVar 2) (eC (.int 0))) (eC c_LEAVES)) (tCmp fNe (eBin fIx (eVar 2) (eC (.int 1))) (eBin fIx (eVar 1) (eC (.int 1)))))) (sRet (eC (.bl false))) (sNil))) (sRet (eTst (tCmp fNe (eBin fIx (eVar 1) (eC (.int 0))) (eC (.str "name"))))))
/-- reading_shared_shape(row, rows); 0 row, 1 rows, 2 some, 3 number, 4 tree -/
def b_reading_shared_shape (f_names_word_by f_reading_same_heads f_reading_shared_shape f_trees_parts f_trees_with_parts : List PV → Sto → Res PV) (wf : Nat) : DS :=
  sSeq (sIf (tNot (tVal (eFn f_reading_same_heads (aCons (eVar 0) (aNil))))) (sSeq (sIf (tCmp fNotIn (eVar 0) (eVar 1)) (sExpr (eMt isLst fAppend (eVar 1) (aCons (eVar 0) (aNil)))) (sNil)) (sRet (eTup (aCons (eC (.str "gap")) (aCons (eBin fAdd (eC (.str "g")) (eFn f_names_word_by (aCons (eMt isLst fIndex (eVar 1) (aCons (eVar 0) (aNil))) (aNil)))) (aCons (eTup (aNil)) (aNil))))))) (sNil)) (sSeq (sSet 2 (eLst (aNil))) (sSeq (sFor (pRange1 (aCons (eFn fLen (aCons (eFn f_trees_parts (aCons (eBin fIx (eVar 0) (eC (.int 0))) (aNil))) (aNil))) (aNil))) (gN 3) (sExpr (eMt isLst fAppend (eVar 2) (aCons (eFn f_reading_shared_shape (aCons (eLc (pIter (eVar 0)) (gN 4) (tYesP) (eBin fIx (eFn f_trees_parts (aCons (eVar 4) (aNil))) (eVar 3))) (aCons (eVar 1) (aNil)))) (aNil))))) (sRet (eFn f_trees_with_parts (aCons (eBin fIx (eVar 0) (eC (.int 0))) (aCons (eVar 2) (aNil)))))))
/-- rules_binds_twice(shape); 0 shape, 1 some -/
def b_rules_binds_twice (f_rules_bound_names : List PV → Sto → Res PV) (wf : Nat) : DS :=
  sSeq (sSet 1 (eFn f_rules_bound_names (aCons (eVar 0) (aNil)))) (sRet (eTst (tCmp fLt (eUn fLenSet (eVar 1)) (eFn fLen (aCons (eVar 1) (aNil))))))
/-- rules_bound_names(shape); 0 shape, 1 found, 2 part -/
def b_rules_bound_names (f_rules_bound_names f_trees_parts : List PV → Sto → Res PV) (wf : Nat) : DS :=
  sSeq (sSet 1 (eLst (aNil))) (sSeq (sIf (tCmp fEq (eBin fIx (eVar 0) (eC (.int 0))) (eC (.str "let"))) (sExpr (eMt isLst fAppend (eVar 1) (aCons (eBin fIx (eVar 0) (eC (.int 1))) (aNil)))) (sNil)) (sSeq (sFor (pIter (eFn f_trees_parts (aCons (eVar 0) (aNil)))) (gN 2) (sExpr (eMt isLst fExtend (eVar 1) (aCons (eFn f_rules_bound_names (aCons (eVar 2) (aNil))) (aNil))))) (sRet (eVar 1))))
/-- rules_every_gap(shape); 0 shape, 1 found, 2 atom, 3 part -/
def b_rules_every_gap (f_rules_every_gap f_trees_parts : List PV → Sto → Res PV) (wf : Nat) : DS :=
  sSeq (sSet 1 (eLst (aNil))) (sSeq (sIf (tCmp fEq (eBin fIx (eVar 0) (eC (.int 0))) (eC (.str "gap"))) (sSeq (sExpr (eMt isLst fAppend (eVar 1) (aCons (eVar 0) (aNil)))) (sFor (pIter (eBin fIx (eVar 0) (eC (.int 2)))) (gN 2) (sExpr (eMt isLst fExtend (eVar 1) (aCons (eFn f_rules_every_gap (aCons (eVar 2) (aNil))) (aNil)))))) (sNil)) (sSeq (sFor (pIter (eFn f_trees_parts (aCons (eVar 0) (aNil)))) (gN 3) (sExpr (eMt isLst fExtend (eVar 1) (aCons (eFn f_rules_every_gap (aCons (eVar 3) (aNil))) (aNil))))) (sRet (eVar 1))))
/-- rules_form(rule); 0 rule, 1 why -/
def b_rules_form (f_rules_why_none : List PV → Sto → Res PV) (wf : Nat) : DS :=
  sSeq (sSet 1 (eFn f_rules_why_none (aCons (eBin fIx (eVar 0) (eC (.int 0))) (aCons (eBin fIx (eVar 0) (eC (.int 1))) (aCons (eBin fIx (eVar 0) (eC (.int 2))) (aNil)))))) (sIf (tCmp fNe (eVar 1) (eC (.str ""))) (sBad) (sNil))
/-- rules_gaps_of(shape); 0 shape, 1 many, 2 gap -/
def b_rules_gaps_of (f_rules_every_gap : List PV → Sto → Res PV) (wf : Nat) : DS :=
  sSeq (sSet 1 (eDict0)) (sSeq (sFor (pIter (eFn f_rules_every_gap (aCons (eVar 0) (aNil)))) (gN 2) (sExpr (eSetd (eVar 1) (eBin fIx (eVar 2) (eC (.int 1))) (eFn fLen (aCons (eBin fIx (eVar 2) (eC (.int 2))) (aNil)))))) (sRet (eVar 1)))
/-- rules_is_loud(shape); 0 shape, 1 part -/
def b_rules_is_loud (f_rules_is_loud f_trees_parts : List PV → Sto → Res PV) (wf : Nat) : DS :=
  sSeq (sIf (tCmp fIn (eBin fIx (eVar 0) (eC (.int 0))) (eC c_LOUD)) (sRet (eC (.bl true))) (sNil)) (sSeq (sFor (pIter (eFn f_trees_parts (aCons (eVar 0) (aNil)))) (gN 1) (sIf (tVal (eFn f_rules_is_loud (aCons (eVar 1) (aNil)))) (sRet (eC (.bl true))) (sNil))) (sRet (eC (.bl false))))
/-- rules_is_quiet(tree, kinds); 0 tree, 1 kinds, 2 part -/
def b_rules_is_quiet (f_rules_is_quiet f_rules_kind_of f_trees_parts : List PV → Sto → Res PV) (wf : Nat) : DS :=
  sSeq (sIf (tCmp fIsN (eVar 1) (eC .non)) (sSet 1 (eTup (aNil))) (sNil)) (sSeq (sIf (tCmp fIn (eBin fIx (eVar 0) (eC (.int 0))) (eC c_LOUD)) (sRet (eC (.bl false))) (sNil)) (sSeq (sIf (tCmp fEq (eBin fIx (eVar 0) (eC (.int 0))) (eC (.str "gap"))) (sRet (eTst (tCmp fNe (eFn f_rules_kind_of (aCons (eBin fIx (eVar 0) (eC (.int 1))) (aCons (eVar 1) (aNil)))) (eC (.str ""))))) (sNil)) (sSeq (sFor (pIter (eFn f_trees_parts (aCons (eVar 0) (aNil)))) (gN 2) (sIf (tNot (tVal (eFn f_rules_is_quiet (aCons (eVar 2) (aCons (eVar 1) (aNil)))))) (sRet (eC (.bl false))) (sNil))) (sRet (eC (.bl true))))))
/-- rules_kind_of(gap, kinds); 0 gap, 1 kinds, 2 name, 3 kind -/
def b_rules_kind_of (wf : Nat) : DS :=
  sSeq (sFor (pIter (eVar 1)) (gT [2, 3]) (sIf (tCmp fEq (eVar 2) (eVar 0)) (sRet (eVar 3)) (sNil))) (sRet (eC (.str "")))
/-- rules_kinds_told(kinds, many); 0 kinds, 1 many, 2 gap, 3 kind -/
def b_rules_kinds_told (wf : Nat) : DS :=
  sSeq (sFor (pIter (eVar 0)) (gT [2, 3]) (sIf (tOr (tCmp fNotIn (eVar 2) (eVar 1)) (tAnd (tCmp fEq (eVar 3) (eC (.str "number"))) (tCmp fGt (eBin fIx (eVar 1) (eVar 2)) (eC (.int 0))))) (sRet (eC (.bl false))) (sNil))) (sRet (eC (.bl true)))
/-- rules_left_told(left); 0 left, 1 many, 2 gap, 3 names, 4 atom -/
def b_rules_left_told (f_rules_every_gap f_rules_gaps_of : List PV → Sto → Res PV) (wf : Nat) : DS :=
  sSeq (sSet 1 (eFn f_rules_gaps_of (aCons (eVar 0) (aNil)))) (sSeq (sFor (pIter (eFn f_rules_every_gap (aCons (eVar 0) (aNil)))) (gN 2) (sSeq (sSet 3 (eLc (pIter (eBin fIx (eVar 2) (eC (.int 2)))) (gN 4) (tCmp fEq (eBin fIx (eVar 4) (eC (.int 0))) (eC (.str "name"))) (eBin fIx (eVar 4) (eC (.int 1))))) (sIf (tOr (tCmp fLt (eUn fLenSet (eVar 3)) (eFn fLen (aCons (eBin fIx (eVar 2) (eC (.int 2))) (aNil)))) (tCmp fNe (eFn fLen (aCons (eBin fIx (eVar 2) (eC (.int 2))) (aNil))) (eBin fIx (eVar 1) (eBin fIx (eVar 2) (eC (.int 1)))))) (sRet (eC (.bl false))) (sNil)))) (sRet (eC (.bl true))))
/-- rules_right_told(right, many, kinds); 0 right, 1 many, 2 kinds, 3 gap, 4 atom -/
def b_rules_right_told (f_rules_every_gap f_rules_kind_of : List PV → Sto → Res PV) (wf : Nat) : DS :=
  sSeq (sFor (pIter (eFn f_rules_every_gap (aCons (eVar 0) (aNil)))) (gN 3) (sSeq (sIf (tCmp fNe (eGet2 (eVar 1) (eBin fIx (eVar 3) (eC (.int 1))) (eFn fLen (aCons (eBin fIx (eVar 3) (eC (.int 2))) (aNil)))) (eFn fLen (aCons (eBin fIx (eVar 3) (eC (.int 2))) (aNil)))) (sRet (eC (.bl false))) (sNil)) (sFor (pIter (eBin fIx (eVar 3) (eC (.int 2)))) (gN 4) (sIf (tAnd (tCmp fEq (eBin fIx (eVar 4) (eC (.int 0))) (eC (.str "gap"))) (tCmp fNe (eFn f_rules_kind_of (aCons (eBin fIx (eVar 4) (eC (.int 1))) (aCons (eVar 2) (aNil)))) (eC (.str "number")))) (sRet (eC (.bl false))) (sNil))))) (sRet (eC (.bl true)))
/-- rules_why_none(left, right, kinds); 0 left, 1 right, 2 kinds, 3 many, 4 gap -/
def b_rules_why_none (f_names_free_names f_rules_binds_twice f_rules_gaps_of f_rules_is_loud f_rules_kinds_told f_rules_left_told f_rules_right_told f_trees_parts : List PV → Sto → Res PV) (wf : Nat) : DS :=
  sSeq (sSet 3 (eFn f_rules_gaps_of (aCons (eVar 0) (aNil)))) (sSeq (sIf (tCmp fEq (eFn fLen (aCons (eFn f_trees_parts (aCons (eVar 0) (aNil))) (aNil))) (eC (.int 0))) (sRet (eC (.str "leaf"))) (sNil)) (sSeq (sIf (tOr (tVal (eFn f_rules_binds_twice (aCons (eVar 0) (aNil)))) (tVal (eFn f_rules_binds_twice (aCons (eVar 1) (aNil))))) (sRet (eC (.str "twice"))) (sNil)) (sSeq (sIf (tOr (tCmp fNe (eFn f_names_free_names (aCons (eVar 0) (aNil))) (eLst (aNil))) (tCmp fNe (eFn f_names_free_names (aCons (eVar 1) (aNil))) (eLst (aNil)))) (sRet (eC (.str "free"))) (sNil)) (sSeq (sIf (tOr (tNot (tVal (eFn f_rules_left_told (aCons (eVar 0) (aNil))))) (tNot (tVal (eFn f_rules_right_told (aCons (eVar 1) (aCons (eVar 3) (aCons (eVar 2) (aNil)))))))) (sRet (eC (.str "told"))) (sNil)) (sSeq (sFor (pIter (eFn f_rules_gaps_of (aCons (eVar 1) (aNil)))) (gN 4) (sIf (tCmp fNotIn (eVar 4) (eVar 3)) (sRet (eC (.str "gap"))) (sNil))) (sSeq (sIf (tNot (tVal (eFn f_rules_kinds_told (aCons (eVar 2) (aCons (eVar 3) (aNil)))))) (sRet (eC (.str "kind"))) (sNil)) (sSeq (sIf (tAnd (tVal (eFn f_rules_is_loud (aCons (eVar 1) (aNil)))) (tNot (tVal (eFn f_rules_is_loud (aCons (eVar 0) (aNil)))))) (sRet (eC (.str "loud"))) (sNil)) (sRet (eC (.str ""))))))))))
/-- trees_parts(tree); 0 tree -/
def b_trees_parts (wf : Nat) : DS :=
  sSeq (sIf (tCmp fIn (eBin fIx (eVar 0) (eC (.int 0))) (eC c_LEAVES)) (sRet (eTup (aNil))) (sNil)) (sSeq (sIf (tCmp fEq (eBin fIx (eVar 0) (eC (.int 0))) (eC (.str "let"))) (sRet (eCut (eVar 0) (oSome (eC (.int 2))) (oNone))) (sNil)) (sRet (eCut (eVar 0) (oSome (eC (.int 1))) (oNone))))
/-- trees_with_parts(tree, some); 0 tree, 1 some -/
def b_trees_with_parts (wf : Nat) : DS :=
  sSeq (sIf (tCmp fIn (eBin fIx (eVar 0) (eC (.int 0))) (eC c_LEAVES)) (sRet (eVar 0)) (sNil)) (sSeq (sIf (tCmp fEq (eBin fIx (eVar 0) (eC (.int 0))) (eC (.str "let"))) (sRet (eBin fAdd (eCut (eVar 0) (oNone) (oSome (eC (.int 2)))) (eFn fTuple (aCons (eVar 1) (aNil))))) (sNil)) (sRet (eBin fAdd (eCut (eVar 0) (oNone) (oSome (eC (.int 1)))) (eFn fTuple (aCons (eVar 1) (aNil))))))
end Pg
namespace Pg
open PySem Dn
open L2 (atI ixN Key)
abbrev Fn := List PV → Sto → Res PV
inductive Sg where
  | num | name | ask | stop | gap | say | add | sub | mul | thn | ifc | lt
  deriving DecidableEq
def Sg.str : Sg → Str
  | .num => "num" | .name => "name" | .ask => "ask" | .stop => "stop" | .gap => "gap" | .say => "say"
  | .add => "add" | .sub => "sub" | .mul => "mul" | .thn => "then" | .ifc => "if" | .lt => "let"
def Sg.all : List Sg := [.num, .name, .ask, .stop, .gap, .say, .add, .sub, .mul, .thn, .ifc, .lt]
theorem Sg.mem_all (a : Sg) : a ∈ Sg.all := by cases a <;> decide
theorem Sg.str_inj0 : ∀ a ∈ Sg.all, ∀ b ∈ Sg.all, a.str = b.str → a = b := by decide +kernel
@[simp] theorem Sg.str_inj (a b : Sg) : (a.str = b.str) = (a = b) := propext ⟨Sg.str_inj0 a a.mem_all b b.mem_all, fun e => by rw [e]⟩
@[simp] theorem s_num : Str.ofString "num" = Sg.num.str := rfl
@[simp] theorem s_name : Str.ofString "name" = Sg.name.str := rfl
@[simp] theorem s_ask : Str.ofString "ask" = Sg.ask.str := rfl
@[simp] theorem s_stop : Str.ofString "stop" = Sg.stop.str := rfl
@[simp] theorem s_gap : Str.ofString "gap" = Sg.gap.str := rfl
@[simp] theorem s_say : Str.ofString "say" = Sg.say.str := rfl
@[simp] theorem s_add : Str.ofString "add" = Sg.add.str := rfl
@[simp] theorem s_sub : Str.ofString "sub" = Sg.sub.str := rfl
@[simp] theorem s_mul : Str.ofString "mul" = Sg.mul.str := rfl
@[simp] theorem s_then : Str.ofString "then" = Sg.thn.str := rfl
@[simp] theorem s_if : Str.ofString "if" = Sg.ifc.str := rfl
@[simp] theorem s_let : Str.ofString "let" = Sg.lt.str := rfl
inductive At where
  | num (n : Int) | name (x : Str) | gap (h : Str)
  deriving DecidableEq
inductive Op2 where
  | add | sub | mul | thn
  deriving DecidableEq
def Op2.sg : Op2 → Sg
  | .add => .add | .sub => .sub | .mul => .mul | .thn => .thn
inductive Tr where
  | num (n : Int) | name (x : Str) | ask (x : Str) | stop (x : Str) | gap (g : Str) (as : List At)
  | say (a : Tr) | bin (o : Op2) (a b : Tr) | ifc (a b c : Tr) | lt (x : Str) (a b : Tr)
  deriving DecidableEq
def At.enc : At → PV
  | .num n => .tup [.str Sg.num.str, .int n]
  | .name x => .tup [.str Sg.name.str, .str x]
  | .gap h => .tup [.str Sg.gap.str, .str h, .tup []]
def Tr.enc : Tr → PV
  | .num n => .tup [.str Sg.num.str, .int n]
  | .name x => .tup [.str Sg.name.str, .str x]
  | .ask x => .tup [.str Sg.ask.str, .str x]
  | .stop x => .tup [.str Sg.stop.str, .str x]
  | .gap g as => .tup [.str Sg.gap.str, .str g, .tup (as.map At.enc)]
  | .say a => .tup [.str Sg.say.str, a.enc]
  | .bin o a b => .tup [.str o.sg.str, a.enc, b.enc]
  | .ifc a b c => .tup [.str Sg.ifc.str, a.enc, b.enc, c.enc]
  | .lt x a b => .tup [.str Sg.lt.str, .str x, a.enc, b.enc]
def Tr.parts : Tr → List Tr
  | .say a => [a]
  | .bin _ a b => [a, b]
  | .ifc a b c => [a, b, c]
  | .lt _ a b => [a, b]
  | _ => []
def Tr.sg : Tr → Sg
  | .num _ => .num | .name _ => .name | .ask _ => .ask | .stop _ => .stop | .gap _ _ => .gap
  | .say _ => .say | .bin o _ _ => o.sg | .ifc _ _ _ => .ifc | .lt _ _ _ => .lt
section
variable (en : En) (S : Sto) (f f' : PV → PV → Sto → Res PV) (fb : PV → PV → Sto → Res Bool) (fu : PV → Sto → Res PV) (fn : List PV → Sto → Res PV) (a b c : DE) (t u : DT) (m : DA) (s1 s2 : DS) (i : Nat) (g : Tg) (x y : PV)
@[simp] theorem r_bind_ok {α β : Type} (v : α) (k : α → Sto → Res β) : (Res.ok v S).bind k = k v S := rfl
@[simp] theorem r_out_ok {α : Type} (v : α) (k : α → Sto → Out) : (Res.ok v S).out en k = k v S := rfl
@[simp] theorem r_eVar : eVar i en S = match en[i]? with | some (some x) => .ok x S | _ => .bad := rfl
@[simp] theorem r_eC : eC x en S = .ok x S := rfl
@[simp] theorem r_eBin : eBin f a b en S = (a en S).bind fun x S1 => (b en S1).bind fun y S2 => f x y S2 := rfl
@[simp] theorem r_eUn : eUn fu a en S = (a en S).bind fun x S1 => fu x S1 := rfl
@[simp] theorem r_tCmp : tCmp fb a b en S = (a en S).bind fun x S1 => (b en S1).bind fun y S2 => fb x y S2 := rfl
@[simp] theorem r_eTst : eTst t en S = (t en S).bind fun b S1 => .ok (.bl b) S1 := rfl
@[simp] theorem r_tVal : tVal a en S = (a en S).bind fun x S1 => match x with | .bl b => .ok b S1 | _ => .bad := rfl
@[simp] theorem r_tAnd : tAnd t u en S = (t en S).bind fun c S1 => if c = true then u en S1 else .ok false S1 := rfl
@[simp] theorem r_tOr : tOr t u en S = (t en S).bind fun c S1 => if c = true then .ok true S1 else u en S1 := rfl
@[simp] theorem r_tNot : tNot t en S = (t en S).bind fun c S1 => .ok (!c) S1 := rfl
@[simp] theorem r_eAnd : eAnd a b en S = (a en S).bind fun x S1 => match x with | .bl c => if c = true then b en S1 else .ok (.bl false) S1 | _ => .bad := rfl
@[simp] theorem r_eOr : eOr a b en S = (a en S).bind fun x S1 => match x with | .bl c => if c = true then .ok (.bl true) S1 else b en S1 | _ => .bad := rfl
@[simp] theorem r_eIf : eIf t a b en S = (t en S).bind fun c S1 => if c = true then a en S1 else b en S1 := rfl
@[simp] theorem r_aNil : aNil en S = .ok [] S := rfl
@[simp] theorem r_aCons : aCons a m en S = (a en S).bind fun x S1 => (m en S1).bind fun xs S2 => .ok (x :: xs) S2 := rfl
@[simp] theorem r_eTup : eTup m en S = (m en S).bind fun xs S1 => if xs.length ≤ sizeLine then .ok (.tup xs) S1 else .bad := rfl
@[simp] theorem r_eLst : eLst m en S = (m en S).bind fun xs S1 => if xs.length ≤ sizeLine then .ok (.ref S1.length) (S1 ++ [.lst xs]) else .bad := rfl
@[simp] theorem r_oNone : oNone en S = .ok none S := rfl
@[simp] theorem r_oSome : oSome a en S = (a en S).bind fun x S1 => match x with | .int i => .ok (some i) S1 | _ => .bad := rfl
@[simp] theorem r_eCut (l h : DO) : eCut a l h en S = (a en S).bind fun x S1 => (l en S1).bind fun l S2 => (h en S2).bind fun u S3 => fCut x l u S3 := rfl
@[simp] theorem r_eFn : eFn fn m en S = (m en S).bind fun xs S1 => fn xs S1 := rfl
@[simp] theorem r_eDict0 : eDict0 en S = .ok (.ref S.length) (S ++ [.dic []]) := rfl
theorem r_sNil : sNil en S = .next en S := rfl
theorem r_sSeq : sSeq s1 s2 en S = match s1 en S with | .next en1 S1 => s2 en1 S1 | o => o := rfl
theorem r_sExpr : sExpr a en S = (a en S).out en fun _ S1 => .next en S1 := rfl
theorem r_sRet : sRet a en S = (a en S).out en fun x S1 => .ret x S1 := rfl
theorem r_sRetN : sRetN en S = .ret .non S := rfl
theorem r_sIf : sIf t s1 s2 en S = (t en S).out en fun c S1 => if c = true then s1 en S1 else s2 en S1 := rfl
theorem r_sBrk : sBrk en S = .brk en S := rfl
theorem r_sCnt : sCnt en S = .cnt en S := rfl
theorem r_sBad : sBad en S = .bad := rfl
theorem r_sAsg : sAsg a g en S = (a en S).out en fun x S1 => match g.f x en with | some en1 => .next en1 S1 | none => .bad := rfl
@[simp] theorem r_gN : (gN i).f x en = some (en.set i (some x)) := rfl
@[simp] theorem r_gT (is : List Nat) (xs : List PV) : (gT is).f (.tup xs) en = gAll is xs en := rfl
@[simp] theorem r_gTp (is : List Nat) (xs : List PV) : (gT is).f (.pr xs) en = gAll is xs en := rfl
@[simp] theorem r_gAll0 : gAll [] [] en = some en := rfl
@[simp] theorem r_gAll1 (is : List Nat) (xs : List PV) : gAll (i :: is) (x :: xs) en = gAll is xs (en.set i (some x)) := rfl
theorem r_sPut : sPut a b c en S = (c en S).out en fun x S1 => (a en S1).out en fun o S2 => (b en S2).out en fun i S3 => match fPut o i x S3 with | some S4 => .next en S4 | none => .bad := rfl
@[simp] theorem r_pIter : pIter a en S = (a en S).bind fun x S1 => fIter x S1 := rfl
@[simp] theorem r_pRange1 : pRange1 m en S = (m en S).bind fun xs S1 => fRange1 xs S1 := rfl
@[simp] theorem r_pRange2 : pRange2 m en S = (m en S).bind fun xs S1 => fRange2 xs S1 := rfl
@[simp] theorem r_pEnum : pEnum m en S = (m en S).bind fun xs S1 => fEnum xs S1 := rfl
@[simp] theorem r_pZip : pZip m en S = (m en S).bind fun xs S1 => fZip xs S1 := rfl
@[simp] theorem r_eMt (is : PV → Sto → Bool) (fm : PV → List PV → Sto → Res PV) : eMt is fm a m en S = (a en S).bind fun x S1 => if is x S1 = true then (m en S1).bind fun xs S2 => fm x xs S2 else .bad := rfl
@[simp] theorem r_eGet2 : eGet2 a b c en S = (a en S).bind fun x S1 => if isDic x S1 = true then (b en S1).bind fun y S2 => (c en S2).bind fun z S3 => fGet2 x y z S3 else .bad := rfl
@[simp] theorem r_eSetd : eSetd a b c en S = (a en S).bind fun x S1 => if isDic x S1 = true then (b en S1).bind fun y S2 => (c en S2).bind fun z S3 => fSetd x y z S3 else .bad := rfl
@[simp] theorem r_tYes : tYesP en S = .ok true S := rfl
end
theorem r_sForT (p : DP) (g : Tg) (body : DS) (en : En) (S : Sto) : sFor p g body en S = (p en S).out en fun P S1 => forRun P.it g body (P.n + 1) 0 en S1 := rfl
/-- the rules of the statements together -/
theorem rS : (∀ en S, sNil en S = .next en S) ∧ (∀ s1 s2 en S, sSeq s1 s2 en S = match s1 en S with | .next en1 S1 => s2 en1 S1 | o => o) ∧
    (∀ a en S, sExpr a en S = (a en S).out en fun _ S1 => .next en S1) ∧ (∀ a en S, sRet a en S = (a en S).out en fun x S1 => .ret x S1) ∧ (∀ en S, sRetN en S = .ret .non S) ∧
    (∀ t s1 s2 en S, sIf t s1 s2 en S = (t en S).out en fun c S1 => if c = true then s1 en S1 else s2 en S1) ∧ (∀ en S, sBrk en S = .brk en S) ∧ (∀ en S, sCnt en S = .cnt en S) ∧ (∀ en S, sBad en S = .bad) ∧
    (∀ a g en S, sAsg a g en S = (a en S).out en fun x S1 => match g.f x en with | some en1 => .next en1 S1 | none => .bad) ∧
    (∀ a b c en S, sPut a b c en S = (c en S).out en fun x S1 => (a en S1).out en fun o S2 => (b en S2).out en fun i S3 => match fPut o i x S3 with | some S4 => .next en S4 | none => .bad) ∧
    (∀ p g body en S, sFor p g body en S = (p en S).out en fun P S1 => forRun P.it g body (P.n + 1) 0 en S1) :=
  ⟨fun _ _ => rfl, fun _ _ _ _ => rfl, fun _ _ _ => rfl, fun _ _ _ => rfl, fun _ _ => rfl, fun _ _ _ _ _ => rfl, fun _ _ => rfl, fun _ _ => rfl, fun _ _ => rfl, fun _ _ _ _ => rfl, fun _ _ _ _ _ => rfl, fun _ _ _ _ _ => rfl⟩
theorem at0 {α : Type} {l : List α} : atI l 0 = l[0]? := by
  unfold atI ixN
  cases l <;> simp
theorem atN {α : Type} {l : List α} (n : Nat) : atI l (n : Int) = l[n]? := by
  unfold atI ixN
  by_cases h : n < l.length
  · simp [h]
  · simp [h]
theorem at1 {α : Type} {l : List α} : atI l 1 = l[1]? := atN 1
theorem at2 {α : Type} {l : List α} : atI l 2 = l[2]? := atN 2
theorem at3 {α : Type} {l : List α} : atI l 3 = l[3]? := atN 3
@[simp] theorem v_ix0 (xs : List PV) (S : Sto) : fIx (.tup xs) (.int 0) S = optRes xs[0]? S := by simp [fIx, at0]
@[simp] theorem v_ix1 (xs : List PV) (S : Sto) : fIx (.tup xs) (.int 1) S = optRes xs[1]? S := by simp [fIx, at1]
@[simp] theorem v_ix2 (xs : List PV) (S : Sto) : fIx (.tup xs) (.int 2) S = optRes xs[2]? S := by simp [fIx, at2]
@[simp] theorem v_ix3 (xs : List PV) (S : Sto) : fIx (.tup xs) (.int 3) S = optRes xs[3]? S := by simp [fIx, at3]
@[simp] theorem v_opt_some (x : PV) (S : Sto) : optRes (some x) S = .ok x S := rfl
@[simp] theorem v_eqS (a b : Str) (S : Sto) : fEq (.str a) (.str b) S = .ok (decide (a = b)) S := rfl
@[simp] theorem v_eqI (a b : Int) (S : Sto) : fEq (.int a) (.int b) S = .ok (decide (a = b)) S := rfl
@[simp] theorem v_neS (a b : Str) (S : Sto) : fNe (.str a) (.str b) S = .ok (!decide (a = b)) S := rfl
@[simp] theorem v_neI (a b : Int) (S : Sto) : fNe (.int a) (.int b) S = .ok (!decide (a = b)) S := rfl
@[simp] theorem v_inT (x : PV) (ys : List PV) (S : Sto) : fIn x (.tup ys) S = inFlat x ys S := rfl
@[simp] theorem v_notinT (x : PV) (ys : List PV) (S : Sto) : fNotIn x (.tup ys) S = rNot (inFlat x ys S) := rfl
@[simp] theorem v_rNot (b : Bool) (S : Sto) : rNot (.ok b S) = .ok (!b) S := rfl
@[simp] theorem v_eqFS (a b : Str) : eqF (.str a) (.str b) = decide (a = b) := Bool.beq_eq_decide_eq a b
@[simp] theorem v_isN (x : PV) (S : Sto) : fIsN x .non S = .ok (isNon x) S := rfl
@[simp] theorem v_notN (x : PV) (S : Sto) : fNotN x .non S = .ok (!isNon x) S := rfl
theorem line0 : (0 : Nat) ≤ sizeLine := Nat.zero_le _
@[simp] theorem lineS {n : Nat} : (n ≤ sizeLine) = (n ≤ 16777216) := rfl
@[simp] theorem lineS' {n : Nat} : (n < sizeLine) = (n < 16777216) := rfl
theorem parts_ok (wf : Nat) (S : Sto) (t : Tr) : fnD 1 1 (b_trees_parts wf) [t.enc] S = .ok (.tup (t.parts.map Tr.enc)) S := by
  cases t with
  | bin o a b => cases o <;> simp [fnD, rS, b_trees_parts, Tr.enc, Tr.parts, c_LEAVES, inFlat, flatP, fCut, cutP, HT.sIx, Op2.sg]
  | _ => simp [fnD, rS, b_trees_parts, Tr.enc, Tr.parts, c_LEAVES, inFlat, flatP, fCut, cutP, HT.sIx]
end Pg
namespace Pg
open PySem Dn
open L2 (atI ixN Key)
/-- a loop over a list that stays -/
def forL (g : Tg) (body : DS) : List PV → En → Sto → Out
  | [], en, S => .next en S
  | x :: xs, en, S => match g.f x en with
    | none => .bad
    | some en1 => match body en1 S with
      | .next en2 S2 => forL g body xs en2 S2
      | .cnt en2 S2 => forL g body xs en2 S2
      | .brk en2 S2 => .next en2 S2
      | .ret x S2 => .ret x S2
      | .exc en2 c f S2 => .exc en2 c f S2
      | .bad => .bad
theorem for_from (it : Nat → Sto → Option (Option PV)) (g : Tg) (body : DS) : ∀ (ys : List PV) (i : Nat) (en : En) (S : Sto), (∀ (j : Nat) (S' : Sto), it (i + j) S' = some ys[j]?) → forRun it g body (ys.length + 1) i en S = forL g body ys en S := by
  intro ys
  induction ys with
  | nil =>
    intro i en S h
    have h0 := h 0 S
    simp at h0
    simp [forRun, forL, h0]
  | cons y ys ih =>
    intro i en S h
    have h0 := h 0 S
    simp at h0
    have hs : ∀ (j : Nat) (S' : Sto), it (i + 1 + j) S' = some ys[j]? := fun j S' => by
      have := h (j + 1) S'
      simp at this
      rw [show i + 1 + j = i + (j + 1) by omega]
      exact this
    rw [List.length_cons]
    unfold forRun
    rw [h0]
    simp only [forL]
    cases g.f y en with
    | none => rfl
    | some en1 =>
      simp only
      cases body en1 S with
      | next en2 S2 => simp only; exact ih (i + 1) en2 S2 hs
      | cnt en2 S2 => simp only; exact ih (i + 1) en2 S2 hs
      | _ => rfl
theorem for_tup (g : Tg) (body : DS) (ys : List PV) (en : En) (S : Sto) : forRun (fTupP ys).it g body ((fTupP ys).n + 1) 0 en S = forL g body ys en S :=
  for_from _ g body ys 0 en S fun j S' => by simp [fTupP]
/-- over a list of the store that the body leaves as it is (Inv: what the body keeps) -/
theorem for_from_ref (n : Nat) (xs : List PV) (g : Tg) (body : DS) (Inv : En → Sto → Prop) (hI : ∀ en S, Inv en S → lstAt n S = some xs)
    (hb : ∀ x en S en1, x ∈ xs → Inv en S → g.f x en = some en1 → match body en1 S with | .next en2 S2 => Inv en2 S2 | .cnt en2 S2 => Inv en2 S2 | _ => True) :
    ∀ (ys : List PV) (i : Nat) (en : En) (S : Sto), (∀ y ∈ ys, y ∈ xs) → (∀ j : Nat, xs[i + j]? = ys[j]?) → Inv en S → forRun (fLstP n xs.length).it g body (ys.length + 1) i en S = forL g body ys en S := by
  intro ys
  induction ys with
  | nil =>
    intro i en S _ h hi
    have h0 := h 0
    have e := hI en S hi
    simp at h0
    have e2 : xs[i]? = none := List.getElem?_eq_none_iff.mpr (by omega)
    simp [forRun, forL, fLstP, e, e2]
  | cons y ys ih =>
    intro i en S hm h hi
    have e := hI en S hi
    have h0 : xs[i]? = some y := by have := h 0; simpa using this
    have hs : ∀ j : Nat, xs[i + 1 + j]? = ys[j]? := fun j => by
      have := h (j + 1)
      simp at this
      rw [show i + 1 + j = i + (j + 1) by omega]
      exact this
    rw [List.length_cons]
    unfold forRun
    have e1 : (fLstP n xs.length).it i S = some (some y) := by simp [fLstP, e, h0]
    rw [e1]
    simp only [forL]
    cases q : g.f y en with
    | none => rfl
    | some en1 =>
      simp only
      have hb' := hb y en S en1 (hm y List.mem_cons_self) hi q
      cases q2 : body en1 S with
      | next en2 S2 => rw [q2] at hb'; simp only; exact ih (i + 1) en2 S2 (fun z hz => hm z (List.mem_cons_of_mem _ hz)) hs hb'
      | cnt en2 S2 => rw [q2] at hb'; simp only; exact ih (i + 1) en2 S2 (fun z hz => hm z (List.mem_cons_of_mem _ hz)) hs hb'
      | _ => rfl
theorem for_ref (n : Nat) (xs : List PV) (g : Tg) (body : DS) (Inv : En → Sto → Prop) (en : En) (S : Sto) (hi : Inv en S) (hI : ∀ en S, Inv en S → lstAt n S = some xs)
    (hb : ∀ x en S en1, x ∈ xs → Inv en S → g.f x en = some en1 → match body en1 S with | .next en2 S2 => Inv en2 S2 | .cnt en2 S2 => Inv en2 S2 | _ => True) :
    forRun (fLstP n xs.length).it g body ((fLstP n xs.length).n + 1) 0 en S = forL g body xs en S :=
  for_from_ref n xs g body Inv hI hb xs 0 en S (fun _ h => h) (fun j => by simp) hi
@[simp] theorem r_forL0 (g : Tg) (body : DS) (en : En) (S : Sto) : forL g body [] en S = .next en S := rfl
theorem r_forL1 (g : Tg) (body : DS) (x : PV) (xs : List PV) (en : En) (S : Sto) : forL g body (x :: xs) en S = match g.f x en with
    | none => .bad
    | some en1 => match body en1 S with
      | .next en2 S2 => forL g body xs en2 S2
      | .cnt en2 S2 => forL g body xs en2 S2
      | .brk en2 S2 => .next en2 S2
      | .ret x S2 => .ret x S2
      | .exc en2 c f S2 => .exc en2 c f S2
      | .bad => .bad := rfl
@[simp] theorem v_iterT (ys : List PV) (S : Sto) : fIter (.tup ys) S = .ok (fTupP ys) S := rfl
/-- a loop that looks for one: the body tells True, or goes on with nothing changed -/
theorem for_any (i : Nat) (body : DS) (p : PV → Bool) : ∀ (xs : List PV) (en : En) (S : Sto), (∀ x ∈ xs, ∀ en : En, body (en.set i (some x)) S = if p x = true then .ret (.bl true) S else .next (en.set i (some x)) S) →
    forL (gN i) body xs en S = if xs.any p = true then .ret (.bl true) S else .next (xs.foldl (fun (en : En) x => en.set i (some x)) en) S
  | [], en, S, _ => rfl
  | x :: xs, en, S, h => by
    rw [r_forL1, r_gN]
    simp only
    rw [h x List.mem_cons_self en, List.any_cons, List.foldl_cons]
    cases hp : p x with
    | true => simp
    | false =>
      simp only [Bool.false_or, if_neg Bool.false_ne_true]
      exact for_any i body p xs _ S fun y hy => h y (List.mem_cons_of_mem _ hy)
/-- a loop that looks whether all: the body tells False, or goes on -/
theorem for_all (g : Tg) (body : DS) (p : PV → Bool) (st : PV → En → En) : ∀ (xs : List PV) (en : En) (S : Sto), (∀ x ∈ xs, ∀ en, ∃ en1, g.f x en = some en1 ∧ body en1 S = if p x = true then .next (st x en) S else .ret (.bl false) S) →
    forL g body xs en S = if xs.all p = true then .next (xs.foldl (fun en x => st x en) en) S else .ret (.bl false) S
  | [], en, S, _ => rfl
  | x :: xs, en, S, h => by
    obtain ⟨en1, h1, h2⟩ := h x List.mem_cons_self en
    rw [r_forL1, h1]
    simp only
    rw [h2, List.all_cons, List.foldl_cons]
    cases hp : p x with
    | false => simp
    | true =>
      simp only [Bool.true_and, if_pos]
      exact for_all g body p st xs _ S fun y hy => h y (List.mem_cons_of_mem _ hy)
end Pg
namespace K71
open PySem L2 Dn
/-- 23: _law_cell_at(_law_script, _law_k); 0 _law_script, 1 _law_k -/
def b_q_law_cell_at (wf : Nat) : DS :=
  sSeq (sIf (tCmp fLt (eVar 1) (eFn fLen (aCons (eVar 0) (aNil)))) (sRet (eBin fIx (eVar 0) (eVar 1))) (sNil)) (sRet (eC (.int 0)))
/-- 24: _law_shape(_law_cells, _law_deep, _law_marks); 0 _law_cells, 1 _law_deep, 2 _law_marks, 3 _law_cell, 4 _law_at, 5 _law_one, 6 _law_other -/
def b_q_law_shape (f_law_shape : List PV → Sto → Res PV) (wf : Nat) : DS :=
  sSeq (sIf (tCmp fEq (eFn fLen (aCons (eVar 0) (aNil))) (eC (.int 0))) (sRet (eTup (aCons (eC (.str "gap")) (aCons (eBin fIx (eVar 2) (eBin fMod (eVar 1) (eFn fLen (aCons (eVar 2) (aNil))))) (aCons (eTup (aNil)) (aNil)))))) (sNil)) (sSeq (sSet 3 (eBin fMod (eBin fMul (eBin fIx (eVar 0) (eC (.int 0))) (eC (.int 39373))) (eC (.int 2147483647)))) (sSeq (sIf (tOr (tCmp fEq (eFn fLen (aCons (eVar 0) (aNil))) (eC (.int 1))) (tCmp fEq (eVar 1) (eC (.int 0)))) (sSeq (sIf (tCmp fEq (eBin fMod (eVar 3) (eC (.int 5))) (eC (.int 0))) (sRet (eTup (aCons (eC (.str "num")) (aCons (eBin fMod (eBin fIx (eVar 0) (eC (.int 0))) (eBin fPow (eC (.int 10)) (eC (.int 30)))) (aNil))))) (sNil)) (sRet (eTup (aCons (eC (.str "gap")) (aCons (eBin fIx (eVar 2) (eBin fMod (eBin fDiv (eVar 3) (eC (.int 5))) (eFn fLen (aCons (eVar 2) (aNil))))) (aCons (eTup (aNil)) (aNil))))))) (sNil)) (sSeq (sSet 4 (eBin fAdd (eC (.int 1)) (eBin fMod (eBin fDiv (eVar 3) (eC (.int 8))) (eFn fLen (aCons (eVar 0) (aNil)))))) (sSeq (sSet 5 (eFn f_law_shape (aCons (eCut (eVar 0) (oSome (eC (.int 1))) (oSome (eVar 4))) (aCons (eBin fSub (eVar 1) (eC (.int 1))) (aCons (eVar 2) (aNil)))))) (sSeq (sSet 6 (eFn f_law_shape (aCons (eCut (eVar 0) (oSome (eVar 4)) (oNone)) (aCons (eBin fSub (eVar 1) (eC (.int 1))) (aCons (eVar 2) (aNil)))))) (sSeq (sIf (tCmp fLt (eBin fMod (eVar 3) (eC (.int 8))) (eC (.int 2))) (sRet (eTup (aCons (eC (.str "if")) (aCons (eVar 6) (aCons (eTup (aCons (eC (.str "num")) (aCons (eBin fMod (eBin fDiv (eVar 3) (eC (.int 64))) (eC (.int 3))) (aNil)))) (aCons (eVar 5) (aNil))))))) (sNil)) (sRet (eTup (aCons (eBin fIx (eLst (aCons (eC (.str "add")) (aCons (eC (.str "sub")) (aCons (eC (.str "mul")) (aCons (eC (.str "then")) (aNil)))))) (eBin fMod (eVar 3) (eC (.int 4)))) (aCons (eVar 5) (aCons (eVar 6) (aNil))))))))))))
/-- 25: _law_gaps(_law_shape_here); 0 _law_shape_here, 1 _law_found, 2 _law_part -/
def b_q_law_gaps (f_law_gaps : List PV → Sto → Res PV) (wf : Nat) : DS :=
  sSeq (sIf (tCmp fEq (eBin fIx (eVar 0) (eC (.int 0))) (eC (.str "gap"))) (sRet (eLst (aCons (eBin fIx (eVar 0) (eC (.int 1))) (aNil)))) (sNil)) (sSeq (sSet 1 (eLst (aNil))) (sSeq (sFor (pIter (eCut (eVar 0) (oSome (eC (.int 1))) (oNone))) (gN 2) (sIf (tVal (eFn fIsi (aCons (eVar 2) (aCons (eC (.ty "tuple")) (aNil))))) (sSet 1 (eBin fAdd (eVar 1) (eFn f_law_gaps (aCons (eVar 2) (aNil))))) (sNil))) (sRet (eVar 1))))
/-- 26: _law_leaf(_law_cell, _law_kind); 0 _law_cell, 1 _law_kind, 2 _law_turn -/
def b_q_law_leaf (wf : Nat) : DS :=
  sSeq (sIf (tCmp fEq (eVar 1) (eC (.int 0))) (sRet (eTup (aCons (eC (.str "num")) (aCons (eBin fIx (eLst (aCons (eBin fMod (eBin fDiv (eVar 0) (eC (.int 16))) (eC (.int 3))) (aCons (eBin fMod (eBin fDiv (eVar 0) (eC (.int 16))) (eBin fPow (eC (.int 10)) (eC (.int 30)))) (aNil)))) (eBin fDiv (eBin fMod (eBin fDiv (eVar 0) (eC (.int 4))) (eC (.int 4))) (eC (.int 3)))) (aNil))))) (sNil)) (sSeq (sSet 2 (eBin fMod (eVar 0) (eBin fIx (eLst (aCons (eC (.int 1)) (aCons (eC (.int 3)) (aCons (eC (.int 4)) (aCons (eC (.int 4)) (aNil)))))) (eVar 1)))) (sSeq (sIf (tCmp fLt (eVar 2) (eC (.int 2))) (sRet (eTup (aCons (eC (.str "num")) (aCons (eBin fMod (eBin fDiv (eVar 0) (eC (.int 4))) (eC (.int 3))) (aNil))))) (sNil)) (sSeq (sIf (tCmp fEq (eVar 2) (eC (.int 2))) (sRet (eTup (aCons (eC (.str "name")) (aCons (eBin fIx (eLst (aCons (eC (.str "b")) (aCons (eC (.str "bb")) (aNil)))) (eBin fMod (eBin fDiv (eVar 0) (eC (.int 4))) (eC (.int 2)))) (aNil))))) (sNil)) (sRet (eTup (aCons (eBin fIx (eLst (aCons (eC (.str "ask")) (aCons (eC (.str "ask")) (aCons (eC (.str "stop")) (aNil))))) (eBin fMod (eBin fDiv (eVar 0) (eC (.int 4))) (eC (.int 3)))) (aCons (eBin fIx (eLst (aCons (eC (.str "b")) (aCons (eC (.str "ab")) (aNil)))) (eBin fMod (eBin fDiv (eVar 0) (eC (.int 12))) (eC (.int 2)))) (aNil))))))))
/-- 27: _law_piece(_law_cell, _law_kind); 0 _law_cell, 1 _law_kind, 2 _law_more, 3 _law_one, 4 _law_other -/
def b_q_law_piece (f_law_leaf : List PV → Sto → Res PV) (wf : Nat) : DS :=
  sSeq (sSet 2 (eBin fMod (eBin fMul (eVar 0) (eC (.int 16807))) (eC (.int 2147483647)))) (sSeq (sSet 3 (eFn f_law_leaf (aCons (eVar 0) (aCons (eVar 1) (aNil))))) (sSeq (sIf (tOr (tCmp fEq (eVar 1) (eC (.int 0))) (tCmp fLt (eBin fMod (eVar 2) (eC (.int 8))) (eC (.int 4)))) (sRet (eVar 3)) (sNil)) (sSeq (sSet 4 (eFn f_law_leaf (aCons (eBin fDiv (eVar 2) (eC (.int 8))) (aCons (eVar 1) (aNil))))) (sSeq (sIf (tAnd (tCmp fEq (eBin fMod (eVar 2) (eC (.int 8))) (eC (.int 4))) (tCmp fEq (eVar 1) (eC (.int 3)))) (sRet (eTup (aCons (eC (.str "say")) (aCons (eVar 3) (aNil))))) (sNil)) (sSeq (sIf (tCmp fEq (eBin fMod (eVar 2) (eC (.int 8))) (eC (.int 5))) (sRet (eTup (aCons (eC (.str "if")) (aCons (eVar 3) (aCons (eVar 4) (aCons (eVar 3) (aNil))))))) (sNil)) (sRet (eTup (aCons (eBin fIx (eLst (aCons (eC (.str "add")) (aCons (eC (.str "mul")) (aNil)))) (eBin fMod (eVar 2) (eC (.int 2)))) (aCons (eVar 3) (aCons (eVar 4) (aNil)))))))))))
/-- 28: _law_filled(_law_shape_here, _law_filling); 0 _law_shape_here, 1 _law_filling, 2 _law_found, 3 _law_part -/
def b_q_law_filled (f_law_filled : List PV → Sto → Res PV) (wf : Nat) : DS :=
  sSeq (sIf (tCmp fEq (eBin fIx (eVar 0) (eC (.int 0))) (eC (.str "gap"))) (sRet (eBin fIx (eVar 1) (eBin fIx (eVar 0) (eC (.int 1))))) (sNil)) (sSeq (sSet 2 (eLst (aCons (eBin fIx (eVar 0) (eC (.int 0))) (aNil)))) (sSeq (sFor (pIter (eCut (eVar 0) (oSome (eC (.int 1))) (oNone))) (gN 3) (sIf (tVal (eFn fIsi (aCons (eVar 3) (aCons (eC (.ty "tuple")) (aNil))))) (sExpr (eMt isLst fAppend (eVar 2) (aCons (eFn f_law_filled (aCons (eVar 3) (aCons (eVar 1) (aNil)))) (aNil)))) (sExpr (eMt isLst fAppend (eVar 2) (aCons (eVar 3) (aNil)))))) (sRet (eFn fTuple (aCons (eVar 2) (aNil))))))
/-- 29: _law_fit(_law_shape_here, _law_tree, _law_filling); 0 _law_shape_here, 1 _law_tree, 2 _law_filling, 3 _law_one, 4 _law_other -/
def b_q_law_fit (f_law_fit : List PV → Sto → Res PV) (wf : Nat) : DS :=
  sSeq (sIf (tCmp fEq (eBin fIx (eVar 0) (eC (.int 0))) (eC (.str "gap"))) (sSeq (sIf (tCmp fNotIn (eBin fIx (eVar 0) (eC (.int 1))) (eVar 2)) (sPut (eVar 2) (eBin fIx (eVar 0) (eC (.int 1))) (eVar 1)) (sNil)) (sRet (eTst (tCmp fEq (eBin fIx (eVar 2) (eBin fIx (eVar 0) (eC (.int 1)))) (eVar 1))))) (sNil)) (sSeq (sIf (tOr (tCmp fNe (eBin fIx (eVar 0) (eC (.int 0))) (eBin fIx (eVar 1) (eC (.int 0)))) (tCmp fNe (eFn fLen (aCons (eVar 0) (aNil))) (eFn fLen (aCons (eVar 1) (aNil))))) (sRet (eC (.bl false))) (sNil)) (sSeq (sFor (pZip (aCons (eCut (eVar 0) (oSome (eC (.int 1))) (oNone)) (aCons (eCut (eVar 1) (oSome (eC (.int 1))) (oNone)) (aNil)))) (gT [3, 4]) (sIf (tNot (tVal (eFn fIsi (aCons (eVar 3) (aCons (eC (.ty "tuple")) (aNil)))))) (sIf (tCmp fNe (eVar 3) (eVar 4)) (sRet (eC (.bl false))) (sNil)) (sIf (tNot (tVal (eFn f_law_fit (aCons (eVar 3) (aCons (eVar 4) (aCons (eVar 2) (aNil))))))) (sRet (eC (.bl false))) (sNil)))) (sRet (eC (.bl true)))))
/-- 30: _law_loud(_law_tree); 0 _law_tree, 1 _law_part -/
def b_q_law_loud (f_law_loud : List PV → Sto → Res PV) (wf : Nat) : DS :=
  sSeq (sIf (tCmp fIn (eBin fIx (eVar 0) (eC (.int 0))) (eTup (aCons (eC (.str "say")) (aCons (eC (.str "ask")) (aCons (eC (.str "stop")) (aNil)))))) (sRet (eC (.bl true))) (sNil)) (sSeq (sFor (pIter (eCut (eVar 0) (oSome (eC (.int 1))) (oNone))) (gN 1) (sIf (tAnd (tVal (eFn fIsi (aCons (eVar 1) (aCons (eC (.ty "tuple")) (aNil))))) (tVal (eFn f_law_loud (aCons (eVar 1) (aNil))))) (sRet (eC (.bl true))) (sNil))) (sRet (eC (.bl false))))
/-- 31: _law_head(_law_tree); 0 _law_tree -/
def b_q_law_head (wf : Nat) : DS :=
  sSeq (sIf (tVal (eFn fIsi (aCons (eBin fIx (eVar 0) (eC (.int 1))) (aCons (eC (.ty "tuple")) (aNil))))) (sRet (eCut (eVar 0) (oNone) (oSome (eC (.int 1))))) (sNil)) (sRet (eCut (eVar 0) (oNone) (oSome (eC (.int 2)))))
/-- 32: _law_row_good(_law_row, _law_kind); 0 _law_row, 1 _law_kind, 2 _law_heads, 3 _law_tree -/
def b_q_law_row_good (f_law_head f_law_loud : List PV → Sto → Res PV) (wf : Nat) : DS :=
  sSeq (sSet 2 (eLc (pIter (eVar 0)) (gN 3) (tOr (tCmp fEq (eBin fIx (eVar 3) (eC (.int 0))) (eC (.str "name"))) (tCmp fNe (eFn f_law_head (aCons (eVar 3) (aNil))) (eFn f_law_head (aCons (eBin fIx (eVar 0) (eC (.int 0))) (aNil))))) (eVar 3))) (sSeq (sIf (tCmp fEq (eVar 2) (eLst (aNil))) (sRet (eC (.bl false))) (sNil)) (sSeq (sIf (tCmp fEq (eLc (pIter (eVar 0)) (gN 3) (tCmp fNe (eBin fIx (eVar 3) (eC (.int 0))) (eC (.str "num"))) (eVar 3)) (eLst (aNil))) (sRet (eTst (tCmp fEq (eVar 1) (eC (.str "number"))))) (sNil)) (sSeq (sIf (tCmp fEq (eLc (pIter (eVar 0)) (gN 3) (tVal (eFn f_law_loud (aCons (eVar 3) (aNil)))) (eVar 3)) (eLst (aNil))) (sRet (eTst (tCmp fEq (eVar 1) (eC (.str "quiet"))))) (sNil)) (sRet (eTst (tCmp fEq (eVar 1) (eC (.str ""))))))))
/-- 33: _law_told(_law_rule, _law_pairs); 0 _law_rule, 1 _law_pairs, 2 _law_fillings_here, 3 _law_before, 4 _law_behind, 5 _law_filling, 6 _law_kinds, 7 _law_rows, 8 _law_gap, 9 _law_row -/
def b_q_law_told (f_law_fit f_law_row_good : List PV → Sto → Res PV) (wf : Nat) : DS :=
  sSeq (sIf (tOr (tNot (tVal (eFn fIsi (aCons (eVar 0) (aCons (eC (.ty "tuple")) (aNil)))))) (tCmp fNe (eFn fLen (aCons (eVar 0) (aNil))) (eC (.int 3)))) (sRet (eC (.bl false))) (sNil)) (sSeq (sSet 2 (eLst (aNil))) (sSeq (sFor (pIter (eVar 1)) (gT [3, 4]) (sSeq (sSet 5 (eDict0)) (sSeq (sIf (tOr (tNot (tVal (eFn f_law_fit (aCons (eBin fIx (eVar 0) (eC (.int 0))) (aCons (eVar 3) (aCons (eVar 5) (aNil))))))) (tNot (tVal (eFn f_law_fit (aCons (eBin fIx (eVar 0) (eC (.int 1))) (aCons (eVar 4) (aCons (eVar 5) (aNil)))))))) (sRet (eC (.bl false))) (sNil)) (sExpr (eMt isLst fAppend (eVar 2) (aCons (eVar 5) (aNil))))))) (sSeq (sSet 6 (eFn fDict (aCons (eBin fIx (eVar 0) (eC (.int 2))) (aNil)))) (sSeq (sSet 7 (eLst (aNil))) (sSeq (sFor (pIter (eFn fSorted (aCons (eBin fIx (eVar 2) (eC (.int 0))) (aNil)))) (gN 8) (sSeq (sSet 9 (eLc (pIter (eVar 2)) (gN 5) (tYesP) (eBin fIx (eVar 5) (eVar 8)))) (sSeq (sIf (tOr (tCmp fIn (eVar 9) (eVar 7)) (tNot (tVal (eFn f_law_row_good (aCons (eVar 9) (aCons (eGet2 (eVar 6) (eVar 8) (eC (.str ""))) (aNil))))))) (sRet (eC (.bl false))) (sNil)) (sExpr (eMt isLst fAppend (eVar 7) (aCons (eVar 9) (aNil))))))) (sRet (eTst (tCmp fEq (eLc (pIter (eVar 6)) (gN 8) (tCmp fNotIn (eVar 8) (eBin fIx (eVar 2) (eC (.int 0)))) (eVar 8)) (eLst (aNil))))))))))
/-- 34: _law_fillings(_law_script, _law_marks, _law_cell); 0 _law_script, 1 _law_marks, 2 _law_cell, 3 _law_fillings_here, 4 _law_k, 5 _law_filling, 6 _law_j, 7 _law_kind -/
def b_q_law_fillings (f_law_cell_at f_law_piece : List PV → Sto → Res PV) (wf : Nat) : DS :=
  sSeq (sSet 3 (eLst (aNil))) (sSeq (sFor (pRange1 (aCons (eBin fAdd (eC (.int 1)) (eBin fMod (eVar 2) (eC (.int 8)))) (aNil))) (gN 4) (sSeq (sSet 5 (eDict0)) (sSeq (sFor (pRange1 (aCons (eFn fLen (aCons (eVar 1) (aNil))) (aNil))) (gN 6) (sSeq (sSet 7 (eBin fMod (eBin fDiv (eVar 2) (eBin fMul (eC (.int 8)) (eBin fAdd (eBin fMul (eVar 6) (eVar 6)) (eC (.int 1))))) (eC (.int 4)))) (sPut (eVar 5) (eBin fIx (eVar 1) (eVar 6)) (eFn f_law_piece (aCons (eFn f_law_cell_at (aCons (eVar 0) (aCons (eBin fAdd (eBin fAdd (eC (.int 17)) (eBin fMul (eC (.int 5)) (eVar 4))) (eVar 6)) (aNil)))) (aCons (eVar 7) (aNil))))))) (sExpr (eMt isLst fAppend (eVar 3) (aCons (eVar 5) (aNil))))))) (sSeq (sIf (tAnd (tCmp fGt (eFn fLen (aCons (eVar 1) (aNil))) (eC (.int 1))) (tCmp fGt (eBin fMod (eBin fDiv (eVar 2) (eC (.int 8))) (eC (.int 3))) (eC (.int 0)))) (sFor (pIter (eCut (eVar 3) (oSome (eBin fSub (eBin fMod (eBin fDiv (eVar 2) (eC (.int 8))) (eC (.int 3))) (eC (.int 1)))) (oNone))) (gN 5) (sPut (eVar 5) (eBin fIx (eVar 1) (eC (.int 0))) (eBin fIx (eVar 5) (eBin fIx (eVar 1) (eC (.int 1)))))) (sNil)) (sRet (eVar 3))))
/-- 35: law(_law_script); 0 _law_script, 1 _law_cell, 2 _law_marks, 3 _law_left, 4 _law_known, 5 _law_right, 6 _law_pairs, 7 _law_filling, 8 _law_handed, 9 _law_rule -/
def b_q_law (f_law_cell_at f_law_filled f_law_fillings f_law_gaps f_law_shape f_law_told f_reading_read_off : List PV → Sto → Res PV) (wf : Nat) : DS :=
  sSeq (sSet 1 (eFn f_law_cell_at (aCons (eVar 0) (aCons (eC (.int 0)) (aNil))))) (sSeq (sSet 2 (eCut (eLst (aCons (eC (.str "a")) (aCons (eC (.str "x")) (aCons (eC (.str "many")) (aCons (eC (.str "z")) (aCons (eC (.str "g")) (aNil))))))) (oNone) (oSome (eBin fAdd (eC (.int 1)) (eBin fMod (eBin fDiv (eVar 1) (eC (.int 8))) (eC (.int 5))))))) (sSeq (sSet 3 (eTup (aCons (eC (.str "add")) (aCons (eFn f_law_shape (aCons (eCut (eVar 0) (oSome (eC (.int 2))) (oSome (eC (.int 8)))) (aCons (eC (.int 4)) (aCons (eVar 2) (aNil))))) (aCons (eFn f_law_shape (aCons (eCut (eVar 0) (oSome (eC (.int 8))) (oSome (eC (.int 13)))) (aCons (eC (.int 4)) (aCons (eVar 2) (aNil))))) (aNil)))))) (sSeq (sSet 4 (eFn f_law_gaps (aCons (eVar 3) (aNil)))) (sSeq (sSet 5 (eTup (aCons (eC (.str "num")) (aCons (eC (.int 7)) (aNil))))) (sSeq (sIf (tCmp fNe (eVar 4) (eLst (aNil))) (sSet 5 (eFn f_law_shape (aCons (eCut (eVar 0) (oSome (eC (.int 13))) (oSome (eC (.int 17)))) (aCons (eC (.int 3)) (aCons (eVar 4) (aNil)))))) (sNil)) (sSeq (sSet 6 (eLst (aNil))) (sSeq (sFor (pIter (eFn f_law_fillings (aCons (eVar 0) (aCons (eVar 2) (aCons (eFn f_law_cell_at (aCons (eVar 0) (aCons (eC (.int 1)) (aNil)))) (aNil)))))) (gN 7) (sExpr (eMt isLst fAppend (eVar 6) (aCons (eTup (aCons (eFn f_law_filled (aCons (eVar 3) (aCons (eVar 7) (aNil)))) (aCons (eFn f_law_filled (aCons (eVar 5) (aCons (eVar 7) (aNil)))) (aNil)))) (aNil))))) (sSeq (sSet 8 (eFn fList (aCons (eVar 6) (aNil)))) (sSeq (sSet 9 (eFn f_reading_read_off (aCons (eVar 8) (aNil)))) (sSeq (sIf (tOr (tNot (tVal (eFn f_law_told (aCons (eVar 9) (aCons (eVar 6) (aNil)))))) (tCmp fNe (eVar 8) (eVar 6))) (sRet (eC (.bl false))) (sNil)) (sSeq (sIf (tCmp fGt (eFn fLen (aCons (eVar 6) (aNil))) (eC (.int 1))) (sIf (tOr (tNot (tVal (eFn f_law_told (aCons (eFn f_reading_read_off (aCons (eCut (eVar 6) (oSome (eC (.int 1))) (oNone)) (aNil))) (aCons (eCut (eVar 6) (oSome (eC (.int 1))) (oNone)) (aNil)))))) (tNot (tVal (eFn f_law_told (aCons (eVar 9) (aCons (eVar 6) (aNil))))))) (sRet (eC (.bl false))) (sNil)) (sNil)) (sSeq (sIf (tCmp fEq (eFn fLen (aCons (eVar 6) (aNil))) (eC (.int 8))) (sRet (eC (.bl true))) (sNil)) (sRet (eFn f_law_told (aCons (eFn f_reading_read_off (aCons (eBin fAdd (eVar 6) (eCut (eVar 6) (oNone) (oSome (eC (.int 1))))) (aNil))) (aCons (eVar 6) (aNil)))))))))))))))))
def tab (cl : Nat → List PV → Sto → Res PV) (wf : Nat) : Nat → List PV → Sto → Res PV
  | 0 => fnD 1 1 (Pg.b_trees_parts wf)
  | 1 => fnD 2 2 (Pg.b_trees_with_parts wf)
  | 2 => fnD 3 5 (Pg.b_names_gather (cl 2) (cl 0) wf)
  | 3 => fnD 1 2 (Pg.b_names_free_names (cl 2) wf)
  | 4 => fnD 1 2 (Pg.b_names_word_by wf)
  | 5 => fnD 1 4 (Pg.b_rules_every_gap (cl 5) (cl 0) wf)
  | 6 => fnD 1 3 (Pg.b_rules_gaps_of (cl 5) wf)
  | 7 => fnD 2 4 (Pg.b_rules_kind_of wf)
  | 8 => fnD 2 3 (Pg.b_rules_is_quiet (cl 8) (cl 7) (cl 0) wf)
  | 9 => fnD 1 2 (Pg.b_rules_is_loud (cl 9) (cl 0) wf)
  | 10 => fnD 1 3 (Pg.b_rules_bound_names (cl 10) (cl 0) wf)
  | 11 => fnD 1 2 (Pg.b_rules_binds_twice (cl 10) wf)
  | 12 => fnD 1 5 (Pg.b_rules_left_told (cl 5) (cl 6) wf)
  | 13 => fnD 3 5 (Pg.b_rules_right_told (cl 5) (cl 7) wf)
  | 14 => fnD 2 4 (Pg.b_rules_kinds_told wf)
  | 15 => fnD 3 5 (Pg.b_rules_why_none (cl 3) (cl 11) (cl 6) (cl 9) (cl 14) (cl 12) (cl 13) (cl 0) wf)
  | 16 => fnD 1 2 (Pg.b_rules_form (cl 15) wf)
  | 17 => fnD 1 2 (Pg.b_reading_has_let (cl 17) (cl 0) wf)
  | 18 => fnD 1 3 (Pg.b_reading_look_at_pairs (cl 17) wf)
  | 19 => fnD 1 3 (Pg.b_reading_same_heads wf)
  | 20 => fnD 2 5 (Pg.b_reading_shared_shape (cl 4) (cl 19) (cl 20) (cl 0) (cl 1) wf)
  | 21 => fnD 1 2 (Pg.b_reading_kind_for (cl 8) wf)
  | 22 => fnD 1 10 (Pg.b_reading_read_off (cl 4) (cl 21) (cl 18) (cl 20) (cl 16) wf)
  | 23 => fnD 2 2 (b_q_law_cell_at wf)
  | 24 => fnD 3 7 (b_q_law_shape (cl 24) wf)
  | 25 => fnD 1 3 (b_q_law_gaps (cl 25) wf)
  | 26 => fnD 2 3 (b_q_law_leaf wf)
  | 27 => fnD 2 5 (b_q_law_piece (cl 26) wf)
  | 28 => fnD 2 4 (b_q_law_filled (cl 28) wf)
  | 29 => fnD 3 5 (b_q_law_fit (cl 29) wf)
  | 30 => fnD 1 2 (b_q_law_loud (cl 30) wf)
  | 31 => fnD 1 1 (b_q_law_head wf)
  | 32 => fnD 2 4 (b_q_law_row_good (cl 31) (cl 30) wf)
  | 33 => fnD 2 10 (b_q_law_told (cl 29) (cl 32) wf)
  | 34 => fnD 3 8 (b_q_law_fillings (cl 23) (cl 27) wf)
  | 35 => fnD 1 10 (b_q_law (cl 23) (cl 28) (cl 34) (cl 25) (cl 24) (cl 33) (cl 22) wf)
  | _ => fun _ _ => .bad
/-- the program, k calls deep -/
def run (wf : Nat) : Nat → Nat → List PV → Sto → Res PV
  | 0 => fun _ _ _ => .bad
  | k + 1 => tab (run wf k) wf
end K71
namespace K71
open PySem PySem.Spec PyProof.Rows L2 Dn
def topS (i : Nat) : Stmt := PySem.Challenge.pw_recastle_k71_most_special.main.body.getD i (.Pass ⟨0, 0, 0, 0⟩)
abbrev s_q_parts : Stmt := topS 6
abbrev N_q_parts : List Str := ["tree"]
theorem sc_q_parts : FnScope N_q_parts ["tree"] (defScope s_q_parts) := ⟨rfl, rfl, rfl, by decide +kernel, rfl, by decide +kernel, by decide +kernel⟩
abbrev s_q_with_parts : Stmt := topS 7
abbrev N_q_with_parts : List Str := ["tree", "some"]
theorem sc_q_with_parts : FnScope N_q_with_parts ["tree", "some"] (defScope s_q_with_parts) := ⟨rfl, rfl, rfl, by decide +kernel, rfl, by decide +kernel, by decide +kernel⟩
abbrev s_q_gather : Stmt := topS 10
abbrev N_q_gather : List Str := ["tree", "bound", "found", "atom", "part"]
theorem sc_q_gather : FnScope N_q_gather ["tree", "bound", "found"] (defScope s_q_gather) := ⟨rfl, rfl, rfl, by decide +kernel, rfl, by decide +kernel, by decide +kernel⟩
abbrev s_q_free_names : Stmt := topS 11
abbrev N_q_free_names : List Str := ["tree", "found"]
theorem sc_q_free_names : FnScope N_q_free_names ["tree"] (defScope s_q_free_names) := ⟨rfl, rfl, rfl, by decide +kernel, rfl, by decide +kernel, by decide +kernel⟩
abbrev s_q_word_by : Stmt := topS 12
abbrev N_q_word_by : List Str := ["number", "word"]
theorem sc_q_word_by : FnScope N_q_word_by ["number"] (defScope s_q_word_by) := ⟨rfl, rfl, rfl, by decide +kernel, rfl, by decide +kernel, by decide +kernel⟩
abbrev s_q_every_gap : Stmt := topS 15
abbrev N_q_every_gap : List Str := ["shape", "found", "atom", "part"]
theorem sc_q_every_gap : FnScope N_q_every_gap ["shape"] (defScope s_q_every_gap) := ⟨rfl, rfl, rfl, by decide +kernel, rfl, by decide +kernel, by decide +kernel⟩
abbrev s_q_gaps_of : Stmt := topS 16
abbrev N_q_gaps_of : List Str := ["shape", "many", "gap"]
theorem sc_q_gaps_of : FnScope N_q_gaps_of ["shape"] (defScope s_q_gaps_of) := ⟨rfl, rfl, rfl, by decide +kernel, rfl, by decide +kernel, by decide +kernel⟩
abbrev s_q_kind_of : Stmt := topS 17
abbrev N_q_kind_of : List Str := ["gap", "kinds", "name", "kind"]
theorem sc_q_kind_of : FnScope N_q_kind_of ["gap", "kinds"] (defScope s_q_kind_of) := ⟨rfl, rfl, rfl, by decide +kernel, rfl, by decide +kernel, by decide +kernel⟩
abbrev s_q_is_quiet : Stmt := topS 18
abbrev N_q_is_quiet : List Str := ["tree", "kinds", "part"]
theorem sc_q_is_quiet : FnScope N_q_is_quiet ["tree", "kinds"] (defScope s_q_is_quiet) := ⟨rfl, rfl, rfl, by decide +kernel, rfl, by decide +kernel, by decide +kernel⟩
abbrev s_q_is_loud : Stmt := topS 19
abbrev N_q_is_loud : List Str := ["shape", "part"]
theorem sc_q_is_loud : FnScope N_q_is_loud ["shape"] (defScope s_q_is_loud) := ⟨rfl, rfl, rfl, by decide +kernel, rfl, by decide +kernel, by decide +kernel⟩
abbrev s_q_bound_names : Stmt := topS 20
abbrev N_q_bound_names : List Str := ["shape", "found", "part"]
theorem sc_q_bound_names : FnScope N_q_bound_names ["shape"] (defScope s_q_bound_names) := ⟨rfl, rfl, rfl, by decide +kernel, rfl, by decide +kernel, by decide +kernel⟩
abbrev s_q_binds_twice : Stmt := topS 21
abbrev N_q_binds_twice : List Str := ["shape", "some"]
theorem sc_q_binds_twice : FnScope N_q_binds_twice ["shape"] (defScope s_q_binds_twice) := ⟨rfl, rfl, rfl, by decide +kernel, rfl, by decide +kernel, by decide +kernel⟩
abbrev s_q_left_told : Stmt := topS 22
abbrev N_q_left_told : List Str := ["left", "many", "gap", "names", "atom"]
theorem sc_q_left_told : FnScope N_q_left_told ["left"] (defScope s_q_left_told) := ⟨rfl, rfl, rfl, by decide +kernel, rfl, by decide +kernel, by decide +kernel⟩
abbrev s_q_right_told : Stmt := topS 23
abbrev N_q_right_told : List Str := ["right", "many", "kinds", "gap", "atom"]
theorem sc_q_right_told : FnScope N_q_right_told ["right", "many", "kinds"] (defScope s_q_right_told) := ⟨rfl, rfl, rfl, by decide +kernel, rfl, by decide +kernel, by decide +kernel⟩
abbrev s_q_kinds_told : Stmt := topS 24
abbrev N_q_kinds_told : List Str := ["kinds", "many", "gap", "kind"]
theorem sc_q_kinds_told : FnScope N_q_kinds_told ["kinds", "many"] (defScope s_q_kinds_told) := ⟨rfl, rfl, rfl, by decide +kernel, rfl, by decide +kernel, by decide +kernel⟩
abbrev s_q_why_none : Stmt := topS 25
abbrev N_q_why_none : List Str := ["left", "right", "kinds", "many", "gap"]
theorem sc_q_why_none : FnScope N_q_why_none ["left", "right", "kinds"] (defScope s_q_why_none) := ⟨rfl, rfl, rfl, by decide +kernel, rfl, by decide +kernel, by decide +kernel⟩
abbrev s_q_form : Stmt := topS 26
abbrev N_q_form : List Str := ["rule", "why"]
theorem sc_q_form : FnScope N_q_form ["rule"] (defScope s_q_form) := ⟨rfl, rfl, rfl, by decide +kernel, rfl, by decide +kernel, by decide +kernel⟩
abbrev s_q_has_let : Stmt := topS 28
abbrev N_q_has_let : List Str := ["tree", "part"]
theorem sc_q_has_let : FnScope N_q_has_let ["tree"] (defScope s_q_has_let) := ⟨rfl, rfl, rfl, by decide +kernel, rfl, by decide +kernel, by decide +kernel⟩
abbrev s_q_look_at_pairs : Stmt := topS 29
abbrev N_q_look_at_pairs : List Str := ["pairs", "before", "behind"]
theorem sc_q_look_at_pairs : FnScope N_q_look_at_pairs ["pairs"] (defScope s_q_look_at_pairs) := ⟨rfl, rfl, rfl, by decide +kernel, rfl, by decide +kernel, by decide +kernel⟩
abbrev s_q_same_heads : Stmt := topS 30
abbrev N_q_same_heads : List Str := ["row", "first", "tree"]
theorem sc_q_same_heads : FnScope N_q_same_heads ["row"] (defScope s_q_same_heads) := ⟨rfl, rfl, rfl, by decide +kernel, rfl, by decide +kernel, by decide +kernel⟩
abbrev s_q_shared_shape : Stmt := topS 31
abbrev N_q_shared_shape : List Str := ["row", "rows", "some", "number", "tree"]
theorem sc_q_shared_shape : FnScope N_q_shared_shape ["row", "rows"] (defScope s_q_shared_shape) := ⟨rfl, rfl, rfl, by decide +kernel, rfl, by decide +kernel, by decide +kernel⟩
abbrev s_q_kind_for : Stmt := topS 32
abbrev N_q_kind_for : List Str := ["row", "tree"]
theorem sc_q_kind_for : FnScope N_q_kind_for ["row"] (defScope s_q_kind_for) := ⟨rfl, rfl, rfl, by decide +kernel, rfl, by decide +kernel, by decide +kernel⟩
abbrev s_q_read_off : Stmt := topS 33
abbrev N_q_read_off : List Str := ["pairs", "rows", "left", "pair", "right", "kinds", "number", "row", "rule", "gap"]
theorem sc_q_read_off : FnScope N_q_read_off ["pairs"] (defScope s_q_read_off) := ⟨rfl, rfl, rfl, by decide +kernel, rfl, by decide +kernel, by decide +kernel⟩
abbrev s_q_law_cell_at : Stmt := topS 35
abbrev N_q_law_cell_at : List Str := ["_law_script", "_law_k"]
theorem sc_q_law_cell_at : FnScope N_q_law_cell_at ["_law_script", "_law_k"] (defScope s_q_law_cell_at) := ⟨rfl, rfl, rfl, by decide +kernel, rfl, by decide +kernel, by decide +kernel⟩
abbrev s_q_law_shape : Stmt := topS 36
abbrev N_q_law_shape : List Str := ["_law_cells", "_law_deep", "_law_marks", "_law_cell", "_law_at", "_law_one", "_law_other"]
theorem sc_q_law_shape : FnScope N_q_law_shape ["_law_cells", "_law_deep", "_law_marks"] (defScope s_q_law_shape) := ⟨rfl, rfl, rfl, by decide +kernel, rfl, by decide +kernel, by decide +kernel⟩
abbrev s_q_law_gaps : Stmt := topS 37
abbrev N_q_law_gaps : List Str := ["_law_shape_here", "_law_found", "_law_part"]
theorem sc_q_law_gaps : FnScope N_q_law_gaps ["_law_shape_here"] (defScope s_q_law_gaps) := ⟨rfl, rfl, rfl, by decide +kernel, rfl, by decide +kernel, by decide +kernel⟩
abbrev s_q_law_leaf : Stmt := topS 38
abbrev N_q_law_leaf : List Str := ["_law_cell", "_law_kind", "_law_turn"]
theorem sc_q_law_leaf : FnScope N_q_law_leaf ["_law_cell", "_law_kind"] (defScope s_q_law_leaf) := ⟨rfl, rfl, rfl, by decide +kernel, rfl, by decide +kernel, by decide +kernel⟩
abbrev s_q_law_piece : Stmt := topS 39
abbrev N_q_law_piece : List Str := ["_law_cell", "_law_kind", "_law_more", "_law_one", "_law_other"]
theorem sc_q_law_piece : FnScope N_q_law_piece ["_law_cell", "_law_kind"] (defScope s_q_law_piece) := ⟨rfl, rfl, rfl, by decide +kernel, rfl, by decide +kernel, by decide +kernel⟩
abbrev s_q_law_filled : Stmt := topS 40
abbrev N_q_law_filled : List Str := ["_law_shape_here", "_law_filling", "_law_found", "_law_part"]
theorem sc_q_law_filled : FnScope N_q_law_filled ["_law_shape_here", "_law_filling"] (defScope s_q_law_filled) := ⟨rfl, rfl, rfl, by decide +kernel, rfl, by decide +kernel, by decide +kernel⟩
abbrev s_q_law_fit : Stmt := topS 41
abbrev N_q_law_fit : List Str := ["_law_shape_here", "_law_tree", "_law_filling", "_law_one", "_law_other"]
theorem sc_q_law_fit : FnScope N_q_law_fit ["_law_shape_here", "_law_tree", "_law_filling"] (defScope s_q_law_fit) := ⟨rfl, rfl, rfl, by decide +kernel, rfl, by decide +kernel, by decide +kernel⟩
abbrev s_q_law_loud : Stmt := topS 42
abbrev N_q_law_loud : List Str := ["_law_tree", "_law_part"]
theorem sc_q_law_loud : FnScope N_q_law_loud ["_law_tree"] (defScope s_q_law_loud) := ⟨rfl, rfl, rfl, by decide +kernel, rfl, by decide +kernel, by decide +kernel⟩
abbrev s_q_law_head : Stmt := topS 43
abbrev N_q_law_head : List Str := ["_law_tree"]
theorem sc_q_law_head : FnScope N_q_law_head ["_law_tree"] (defScope s_q_law_head) := ⟨rfl, rfl, rfl, by decide +kernel, rfl, by decide +kernel, by decide +kernel⟩
abbrev s_q_law_row_good : Stmt := topS 44
abbrev N_q_law_row_good : List Str := ["_law_row", "_law_kind", "_law_heads", "_law_tree"]
theorem sc_q_law_row_good : FnScope N_q_law_row_good ["_law_row", "_law_kind"] (defScope s_q_law_row_good) := ⟨rfl, rfl, rfl, by decide +kernel, rfl, by decide +kernel, by decide +kernel⟩
abbrev s_q_law_told : Stmt := topS 45
abbrev N_q_law_told : List Str := ["_law_rule", "_law_pairs", "_law_fillings_here", "_law_before", "_law_behind", "_law_filling", "_law_kinds", "_law_rows", "_law_gap", "_law_row"]
theorem sc_q_law_told : FnScope N_q_law_told ["_law_rule", "_law_pairs"] (defScope s_q_law_told) := ⟨rfl, rfl, rfl, by decide +kernel, rfl, by decide +kernel, by decide +kernel⟩
abbrev s_q_law_fillings : Stmt := topS 46
abbrev N_q_law_fillings : List Str := ["_law_script", "_law_marks", "_law_cell", "_law_fillings_here", "_law_k", "_law_filling", "_law_j", "_law_kind"]
theorem sc_q_law_fillings : FnScope N_q_law_fillings ["_law_script", "_law_marks", "_law_cell"] (defScope s_q_law_fillings) := ⟨rfl, rfl, rfl, by decide +kernel, rfl, by decide +kernel, by decide +kernel⟩
abbrev s_q_law : Stmt := topS 47
abbrev N_q_law : List Str := ["_law_script", "_law_cell", "_law_marks", "_law_left", "_law_known", "_law_right", "_law_pairs", "_law_filling", "_law_handed", "_law_rule"]
theorem sc_q_law : FnScope N_q_law ["_law_script"] (defScope s_q_law) := ⟨rfl, rfl, rfl, by decide +kernel, rfl, by decide +kernel, by decide +kernel⟩
structure Facts (K : PySem.W.Frag) (mg : Str → Option Value) : Prop where
  n_dict : mg "dict" = none
  n_enumerate : mg "enumerate" = none
  n_isinstance : mg "isinstance" = none
  n_len : mg "len" = none
  n_list : mg "list" = none
  n_range : mg "range" = none
  n_set : mg "set" = none
  n_sorted : mg "sorted" = none
  n_tuple : mg "tuple" = none
  n_zip : mg "zip" = none
  g_LEAVES : GC K mg "LEAVES" Pg.c_LEAVES
  g_LETTERS : GC K mg "LETTERS" Pg.c_LETTERS
  g_LOUD : GC K mg "LOUD" Pg.c_LOUD
structure Tabl (P : Program) (w : World) (K : PySem.W.Frag) (mg : Str → Option Value) (base : Heap) (ca : Nat → Addr) (wf k : Nat) : Prop where
  c0 : Cal P w K mg base ca k "parts" ["tree"] [] (run wf k 0)
  c1 : Cal P w K mg base ca k "with_parts" ["tree", "some"] [] (run wf k 1)
  c2 : Cal P w K mg base ca k "gather" ["tree", "bound", "found"] [] (run wf k 2)
  c3 : Cal P w K mg base ca k "free_names" ["tree"] [] (run wf k 3)
  c4 : Cal P w K mg base ca k "word_by" ["number"] [] (run wf k 4)
  c5 : Cal P w K mg base ca k "every_gap" ["shape"] [] (run wf k 5)
  c6 : Cal P w K mg base ca k "gaps_of" ["shape"] [] (run wf k 6)
  c7 : Cal P w K mg base ca k "kind_of" ["gap", "kinds"] [] (run wf k 7)
  c8 : Cal P w K mg base ca k "is_quiet" ["tree", "kinds"] [] (run wf k 8)
  c8_1 : ∃ ds, Vals [.non] ds ∧ Cal P w K mg base ca k "is_quiet" ["tree", "kinds"] ds (run wf k 8)
  c9 : Cal P w K mg base ca k "is_loud" ["shape"] [] (run wf k 9)
  c10 : Cal P w K mg base ca k "bound_names" ["shape"] [] (run wf k 10)
  c11 : Cal P w K mg base ca k "binds_twice" ["shape"] [] (run wf k 11)
  c12 : Cal P w K mg base ca k "left_told" ["left"] [] (run wf k 12)
  c13 : Cal P w K mg base ca k "right_told" ["right", "many", "kinds"] [] (run wf k 13)
  c14 : Cal P w K mg base ca k "kinds_told" ["kinds", "many"] [] (run wf k 14)
  c15 : Cal P w K mg base ca k "why_none" ["left", "right", "kinds"] [] (run wf k 15)
  c16 : Cal P w K mg base ca k "form" ["rule"] [] (run wf k 16)
  c17 : Cal P w K mg base ca k "has_let" ["tree"] [] (run wf k 17)
  c18 : Cal P w K mg base ca k "look_at_pairs" ["pairs"] [] (run wf k 18)
  c19 : Cal P w K mg base ca k "same_heads" ["row"] [] (run wf k 19)
  c20 : Cal P w K mg base ca k "shared_shape" ["row", "rows"] [] (run wf k 20)
  c21 : Cal P w K mg base ca k "kind_for" ["row"] [] (run wf k 21)
  c22 : Cal P w K mg base ca k "read_off" ["pairs"] [] (run wf k 22)
  c23 : Cal P w K mg base ca k "_law_cell_at" ["_law_script", "_law_k"] [] (run wf k 23)
  c24 : Cal P w K mg base ca k "_law_shape" ["_law_cells", "_law_deep", "_law_marks"] [] (run wf k 24)
  c25 : Cal P w K mg base ca k "_law_gaps" ["_law_shape_here"] [] (run wf k 25)
  c26 : Cal P w K mg base ca k "_law_leaf" ["_law_cell", "_law_kind"] [] (run wf k 26)
  c27 : Cal P w K mg base ca k "_law_piece" ["_law_cell", "_law_kind"] [] (run wf k 27)
  c28 : Cal P w K mg base ca k "_law_filled" ["_law_shape_here", "_law_filling"] [] (run wf k 28)
  c29 : Cal P w K mg base ca k "_law_fit" ["_law_shape_here", "_law_tree", "_law_filling"] [] (run wf k 29)
  c30 : Cal P w K mg base ca k "_law_loud" ["_law_tree"] [] (run wf k 30)
  c31 : Cal P w K mg base ca k "_law_head" ["_law_tree"] [] (run wf k 31)
  c32 : Cal P w K mg base ca k "_law_row_good" ["_law_row", "_law_kind"] [] (run wf k 32)
  c33 : Cal P w K mg base ca k "_law_told" ["_law_rule", "_law_pairs"] [] (run wf k 33)
  c34 : Cal P w K mg base ca k "_law_fillings" ["_law_script", "_law_marks", "_law_cell"] [] (run wf k 34)
  c35 : Cal P w K mg base ca k "law" ["_law_script"] [] (run wf k 35)
section
variable {P : Program} {w : World} {K : PySem.W.Frag} {mg : Str → Option Value} {base : Heap} {ca : Nat → Addr} {wf k : Nat} {a : Addr} {fd : FuncData}
theorem ok_q_parts (F : Fun K "parts" "parts" s_q_parts a fd) (T : Facts K mg) (C : Tabl P w K mg base ca wf k) : FnOk P w K mg base (L2.CX P w) (k + 1) a fd ["tree"] (spM K ca (run wf (k + 1) 0)) :=
  fn_ok (bd := Pg.b_trees_parts wf) F sc_q_parts 1 1 rfl rfl fun cdv A outer s H E hr => by
    have hu := room_big hr
    have hps := passes_of (X := cxOf (L2.CX P w) P w K mg base N_q_parts "parts" (defScope s_q_parts) a cdv A outer s H E) rfl
    have tk := takes_of (X := cxOf (L2.CX P w) P w K mg base N_q_parts "parts" (defScope s_q_parts) a cdv A outer s H E) (E := E) rfl rfl rfl rfl
    exact z_cons (z_if (t_in hu (x_ix hu (x_var (pv 0)) (x_int)) (x_glob T.g_LEAVES rfl)) (z_one (z_ret (x_tup (y_nil)))) (z_nil)) (z_cons (z_if (t_eq hu (x_ix hu (x_var (pv 0)) (x_int)) (x_str)) (z_one (z_ret (x_cut (x_var (pv 0)) (o_some (x_int)) (o_none)))) (z_nil)) (z_one (z_ret (x_cut (x_var (pv 0)) (o_some (x_int)) (o_none)))))
theorem ok_q_with_parts (F : Fun K "with_parts" "with_parts" s_q_with_parts a fd) (T : Facts K mg) (C : Tabl P w K mg base ca wf k) : FnOk P w K mg base (L2.CX P w) (k + 1) a fd ["tree", "some"] (spM K ca (run wf (k + 1) 1)) :=
  fn_ok (bd := Pg.b_trees_with_parts wf) F sc_q_with_parts 2 2 rfl rfl fun cdv A outer s H E hr => by
    have hu := room_big hr
    have hps := passes_of (X := cxOf (L2.CX P w) P w K mg base N_q_with_parts "with_parts" (defScope s_q_with_parts) a cdv A outer s H E) rfl
    have tk := takes_of (X := cxOf (L2.CX P w) P w K mg base N_q_with_parts "with_parts" (defScope s_q_with_parts) a cdv A outer s H E) (E := E) rfl rfl rfl rfl
    exact z_cons (z_if (t_in hu (x_ix hu (x_var (pv 0)) (x_int)) (x_glob T.g_LEAVES rfl)) (z_one (z_ret (x_var (pv 0)))) (z_nil)) (z_cons (z_if (t_eq hu (x_ix hu (x_var (pv 0)) (x_int)) (x_str)) (z_one (z_ret (x_add (x_cut (x_var (pv 0)) (o_none) (o_some (x_int))) (x_tuple rfl T.n_tuple (y_cons (x_var (pv 1)) (y_nil)))))) (z_nil)) (z_one (z_ret (x_add (x_cut (x_var (pv 0)) (o_none) (o_some (x_int))) (x_tuple rfl T.n_tuple (y_cons (x_var (pv 1)) (y_nil)))))))
theorem ok_q_gather (F : Fun K "gather" "gather" s_q_gather a fd) (T : Facts K mg) (C : Tabl P w K mg base ca wf k) : FnOk P w K mg base (L2.CX P w) (k + 1) a fd ["tree", "bound", "found"] (spM K ca (run wf (k + 1) 2)) :=
  fn_ok (bd := Pg.b_names_gather (run wf k 2) (run wf k 0) wf) F sc_q_gather 3 5 rfl rfl fun cdv A outer s H E hr => by
    have hu := room_big hr
    have hps := passes_of (X := cxOf (L2.CX P w) P w K mg base N_q_gather "gather" (defScope s_q_gather) a cdv A outer s H E) rfl
    have tk := takes_of (X := cxOf (L2.CX P w) P w K mg base N_q_gather "gather" (defScope s_q_gather) a cdv A outer s H E) (E := E) rfl rfl rfl rfl
    exact z_cons (z_if (tst_w (w_and (t_eq hu (x_ix hu (x_var (pv 0)) (x_int)) (x_str)) (w_and1 (t_notin hu (x_ix hu (x_var (pv 0)) (x_int)) (x_var (pv 1)))))) (z_one (z_put hu (x_var (pv 2)) (x_ix hu (x_var (pv 0)) (x_int)) (x_bl))) (z_nil)) (z_cons (z_if (t_eq hu (x_ix hu (x_var (pv 0)) (x_int)) (x_str)) (z_one (z_for hps rfl (i_any (x_ix hu (x_var (pv 0)) (x_int))) (g_name sc_q_gather.nd rfl (by first | exact Or.inl rfl | exact Or.inr rfl)) (z_one (z_if (tst_w (w_and (t_eq hu (x_ix hu (x_var (pv 3)) (x_int)) (x_str)) (w_and1 (t_notin hu (x_ix hu (x_var (pv 3)) (x_int)) (x_var (pv 1)))))) (z_one (z_put hu (x_var (pv 2)) (x_ix hu (x_var (pv 3)) (x_int)) (x_bl))) (z_nil))))) (z_nil)) (z_cons (z_if (t_eq hu (x_ix hu (x_var (pv 0)) (x_int)) (x_str)) (z_cons (z_expr (x_call C.c2 tk hr rfl (y_cons (x_ix hu (x_var (pv 0)) (x_int)) (y_cons (x_var (pv 1)) (y_cons (x_var (pv 2)) (y_nil)))))) (z_cons (z_expr (x_call C.c2 tk hr rfl (y_cons (x_ix hu (x_var (pv 0)) (x_int)) (y_cons (x_add (x_var (pv 1)) (x_tup (y_cons (x_ix hu (x_var (pv 0)) (x_int)) (y_nil)))) (y_cons (x_var (pv 2)) (y_nil)))))) (z_one (z_retN)))) (z_nil)) (z_one (z_for hps rfl (i_any (x_call C.c0 tk hr rfl (y_cons (x_var (pv 0)) (y_nil)))) (g_name sc_q_gather.nd rfl (by first | exact Or.inl rfl | exact Or.inr rfl)) (z_one (z_expr (x_call C.c2 tk hr rfl (y_cons (x_var (pv 4)) (y_cons (x_var (pv 1)) (y_cons (x_var (pv 2)) (y_nil)))))))))))
theorem ok_q_free_names (F : Fun K "free_names" "free_names" s_q_free_names a fd) (T : Facts K mg) (C : Tabl P w K mg base ca wf k) : FnOk P w K mg base (L2.CX P w) (k + 1) a fd ["tree"] (spM K ca (run wf (k + 1) 3)) :=
  fn_ok (bd := Pg.b_names_free_names (run wf k 2) wf) F sc_q_free_names 1 2 rfl rfl fun cdv A outer s H E hr => by
    have hu := room_big hr
    have hps := passes_of (X := cxOf (L2.CX P w) P w K mg base N_q_free_names "free_names" (defScope s_q_free_names) a cdv A outer s H E) rfl
    have tk := takes_of (X := cxOf (L2.CX P w) P w K mg base N_q_free_names "free_names" (defScope s_q_free_names) a cdv A outer s H E) (E := E) rfl rfl rfl rfl
    exact z_cons (z_set sc_q_free_names.nd rfl (by first | exact Or.inl rfl | exact Or.inr rfl) (x_dict0)) (z_cons (z_expr (x_call C.c2 tk hr rfl (y_cons (x_var (pv 0)) (y_cons (x_tup (y_nil)) (y_cons (x_var (pv 1)) (y_nil)))))) (z_one (z_ret (x_sorted rfl rfl T.n_sorted (y_cons (x_var (pv 1)) (y_nil))))))
theorem ok_q_word_by (F : Fun K "word_by" "word_by" s_q_word_by a fd) (T : Facts K mg) (C : Tabl P w K mg base ca wf k) : FnOk P w K mg base (L2.CX P w) (k + 1) a fd ["number"] (spM K ca (run wf (k + 1) 4)) :=
  fn_ok (bd := Pg.b_names_word_by wf) F sc_q_word_by 1 2 rfl rfl fun cdv A outer s H E hr => by
    have hu := room_big hr
    have hps := passes_of (X := cxOf (L2.CX P w) P w K mg base N_q_word_by "word_by" (defScope s_q_word_by) a cdv A outer s H E) rfl
    have tk := takes_of (X := cxOf (L2.CX P w) P w K mg base N_q_word_by "word_by" (defScope s_q_word_by) a cdv A outer s H E) (E := E) rfl rfl rfl rfl
    exact z_cons (z_set sc_q_word_by.nd rfl (by first | exact Or.inl rfl | exact Or.inr rfl) (x_ix hu (x_glob T.g_LETTERS rfl) (x_mod (x_var (pv 0)) (x_int)))) (z_cons (z_while hps (t_ge (x_var (pv 0)) (x_int)) (z_cons (z_set sc_q_word_by.nd rfl (by first | exact Or.inl rfl | exact Or.inr rfl) (x_sub (x_div (x_var (pv 0)) (x_int)) (x_int))) (z_one (z_set sc_q_word_by.nd rfl (by first | exact Or.inl rfl | exact Or.inr rfl) (x_add (x_ix hu (x_glob T.g_LETTERS rfl) (x_mod (x_var (pv 0)) (x_int))) (x_var (pv 1))))))) (z_one (z_ret (x_var (pv 1)))))
theorem ok_q_every_gap (F : Fun K "every_gap" "every_gap" s_q_every_gap a fd) (T : Facts K mg) (C : Tabl P w K mg base ca wf k) : FnOk P w K mg base (L2.CX P w) (k + 1) a fd ["shape"] (spM K ca (run wf (k + 1) 5)) :=
  fn_ok (bd := Pg.b_rules_every_gap (run wf k 5) (run wf k 0) wf) F sc_q_every_gap 1 4 rfl rfl fun cdv A outer s H E hr => by
    have hu := room_big hr
    have hps := passes_of (X := cxOf (L2.CX P w) P w K mg base N_q_every_gap "every_gap" (defScope s_q_every_gap) a cdv A outer s H E) rfl
    have tk := takes_of (X := cxOf (L2.CX P w) P w K mg base N_q_every_gap "every_gap" (defScope s_q_every_gap) a cdv A outer s H E) (E := E) rfl rfl rfl rfl
    exact z_cons (z_set sc_q_every_gap.nd rfl (by first | exact Or.inl rfl | exact Or.inr rfl) (x_lst (y_nil))) (z_cons (z_if (t_eq hu (x_ix hu (x_var (pv 0)) (x_int)) (x_str)) (z_cons (z_expr (x_append (x_var (pv 1)) (y_cons (x_var (pv 0)) (y_nil)))) (z_one (z_for hps rfl (i_any (x_ix hu (x_var (pv 0)) (x_int))) (g_name sc_q_every_gap.nd rfl (by first | exact Or.inl rfl | exact Or.inr rfl)) (z_one (z_expr (x_extend (x_var (pv 1)) (y_cons (x_call C.c5 tk hr rfl (y_cons (x_var (pv 2)) (y_nil))) (y_nil)))))))) (z_nil)) (z_cons (z_for hps rfl (i_any (x_call C.c0 tk hr rfl (y_cons (x_var (pv 0)) (y_nil)))) (g_name sc_q_every_gap.nd rfl (by first | exact Or.inl rfl | exact Or.inr rfl)) (z_one (z_expr (x_extend (x_var (pv 1)) (y_cons (x_call C.c5 tk hr rfl (y_cons (x_var (pv 3)) (y_nil))) (y_nil)))))) (z_one (z_ret (x_var (pv 1))))))
theorem ok_q_gaps_of (F : Fun K "gaps_of" "gaps_of" s_q_gaps_of a fd) (T : Facts K mg) (C : Tabl P w K mg base ca wf k) : FnOk P w K mg base (L2.CX P w) (k + 1) a fd ["shape"] (spM K ca (run wf (k + 1) 6)) :=
  fn_ok (bd := Pg.b_rules_gaps_of (run wf k 5) wf) F sc_q_gaps_of 1 3 rfl rfl fun cdv A outer s H E hr => by
    have hu := room_big hr
    have hps := passes_of (X := cxOf (L2.CX P w) P w K mg base N_q_gaps_of "gaps_of" (defScope s_q_gaps_of) a cdv A outer s H E) rfl
    have tk := takes_of (X := cxOf (L2.CX P w) P w K mg base N_q_gaps_of "gaps_of" (defScope s_q_gaps_of) a cdv A outer s H E) (E := E) rfl rfl rfl rfl
    exact z_cons (z_set sc_q_gaps_of.nd rfl (by first | exact Or.inl rfl | exact Or.inr rfl) (x_dict0)) (z_cons (z_for hps rfl (i_any (x_call C.c5 tk hr rfl (y_cons (x_var (pv 0)) (y_nil)))) (g_name sc_q_gaps_of.nd rfl (by first | exact Or.inl rfl | exact Or.inr rfl)) (z_one (z_expr (x_setd (x_var (pv 1)) (x_ix hu (x_var (pv 2)) (x_int)) (x_len rfl T.n_len (y_cons (x_ix hu (x_var (pv 2)) (x_int)) (y_nil))))))) (z_one (z_ret (x_var (pv 1)))))
theorem ok_q_kind_of (F : Fun K "kind_of" "kind_of" s_q_kind_of a fd) (T : Facts K mg) (C : Tabl P w K mg base ca wf k) : FnOk P w K mg base (L2.CX P w) (k + 1) a fd ["gap", "kinds"] (spM K ca (run wf (k + 1) 7)) :=
  fn_ok (bd := Pg.b_rules_kind_of wf) F sc_q_kind_of 2 4 rfl rfl fun cdv A outer s H E hr => by
    have hu := room_big hr
    have hps := passes_of (X := cxOf (L2.CX P w) P w K mg base N_q_kind_of "kind_of" (defScope s_q_kind_of) a cdv A outer s H E) rfl
    have tk := takes_of (X := cxOf (L2.CX P w) P w K mg base N_q_kind_of "kind_of" (defScope s_q_kind_of) a cdv A outer s H E) (E := E) rfl rfl rfl rfl
    exact z_cons (z_for hps rfl (i_any (x_var (pv 1))) (g_tup sc_q_kind_of.nd rfl (.cons rfl (by first | exact Or.inl rfl | exact Or.inr rfl) (by first | exact Or.inl rfl | exact Or.inr rfl) rfl (.cons rfl (by first | exact Or.inl rfl | exact Or.inr rfl) (by first | exact Or.inl rfl | exact Or.inr rfl) rfl (.nil)))) (z_one (z_if (t_eq hu (x_var (pv 2)) (x_var (pv 0))) (z_one (z_ret (x_var (pv 3)))) (z_nil)))) (z_one (z_ret (x_str)))
theorem ok_q_is_quiet (F : FunD K "is_quiet" "is_quiet" (defArgs s_q_is_quiet) (defBody s_q_is_quiet) (defScope s_q_is_quiet) [.non] [] a fd) (T : Facts K mg) (C : Tabl P w K mg base ca wf k) : FnOk P w K mg base (L2.CX P w) (k + 1) a fd ["tree", "kinds"] (spM K ca (run wf (k + 1) 8)) :=
  fn_okD (bd := Pg.b_rules_is_quiet (run wf k 8) (run wf k 7) (run wf k 0) wf) F sc_q_is_quiet 2 3 rfl rfl fun cdv A outer s H E hr => by
    have hu := room_big hr
    have hps := passes_of (X := cxOf (L2.CX P w) P w K mg base N_q_is_quiet "is_quiet" (defScope s_q_is_quiet) a cdv A outer s H E) rfl
    have tk := takes_of (X := cxOf (L2.CX P w) P w K mg base N_q_is_quiet "is_quiet" (defScope s_q_is_quiet) a cdv A outer s H E) (E := E) rfl rfl rfl rfl
    exact z_cons (z_if (t_isN (x_var (pv 1)) (x_non)) (z_one (z_set sc_q_is_quiet.nd rfl (by first | exact Or.inl rfl | exact Or.inr rfl) (x_tup (y_nil)))) (z_nil)) (z_cons (z_if (t_in hu (x_ix hu (x_var (pv 0)) (x_int)) (x_glob T.g_LOUD rfl)) (z_one (z_ret (x_bl))) (z_nil)) (z_cons (z_if (t_eq hu (x_ix hu (x_var (pv 0)) (x_int)) (x_str)) (z_one (z_ret (x_ne hu (x_call C.c7 tk hr rfl (y_cons (x_ix hu (x_var (pv 0)) (x_int)) (y_cons (x_var (pv 1)) (y_nil)))) (x_str)))) (z_nil)) (z_cons (z_for hps rfl (i_any (x_call C.c0 tk hr rfl (y_cons (x_var (pv 0)) (y_nil)))) (g_name sc_q_is_quiet.nd rfl (by first | exact Or.inl rfl | exact Or.inr rfl)) (z_one (z_if (tst_not (tst_val (x_call C.c8 tk hr rfl (y_cons (x_var (pv 2)) (y_cons (x_var (pv 1)) (y_nil)))))) (z_one (z_ret (x_bl))) (z_nil)))) (z_one (z_ret (x_bl))))))
theorem ok_q_is_loud (F : Fun K "is_loud" "is_loud" s_q_is_loud a fd) (T : Facts K mg) (C : Tabl P w K mg base ca wf k) : FnOk P w K mg base (L2.CX P w) (k + 1) a fd ["shape"] (spM K ca (run wf (k + 1) 9)) :=
  fn_ok (bd := Pg.b_rules_is_loud (run wf k 9) (run wf k 0) wf) F sc_q_is_loud 1 2 rfl rfl fun cdv A outer s H E hr => by
    have hu := room_big hr
    have hps := passes_of (X := cxOf (L2.CX P w) P w K mg base N_q_is_loud "is_loud" (defScope s_q_is_loud) a cdv A outer s H E) rfl
    have tk := takes_of (X := cxOf (L2.CX P w) P w K mg base N_q_is_loud "is_loud" (defScope s_q_is_loud) a cdv A outer s H E) (E := E) rfl rfl rfl rfl
    exact z_cons (z_if (t_in hu (x_ix hu (x_var (pv 0)) (x_int)) (x_glob T.g_LOUD rfl)) (z_one (z_ret (x_bl))) (z_nil)) (z_cons (z_for hps rfl (i_any (x_call C.c0 tk hr rfl (y_cons (x_var (pv 0)) (y_nil)))) (g_name sc_q_is_loud.nd rfl (by first | exact Or.inl rfl | exact Or.inr rfl)) (z_one (z_if (tst_val (x_call C.c9 tk hr rfl (y_cons (x_var (pv 1)) (y_nil)))) (z_one (z_ret (x_bl))) (z_nil)))) (z_one (z_ret (x_bl))))
theorem ok_q_bound_names (F : Fun K "bound_names" "bound_names" s_q_bound_names a fd) (T : Facts K mg) (C : Tabl P w K mg base ca wf k) : FnOk P w K mg base (L2.CX P w) (k + 1) a fd ["shape"] (spM K ca (run wf (k + 1) 10)) :=
  fn_ok (bd := Pg.b_rules_bound_names (run wf k 10) (run wf k 0) wf) F sc_q_bound_names 1 3 rfl rfl fun cdv A outer s H E hr => by
    have hu := room_big hr
    have hps := passes_of (X := cxOf (L2.CX P w) P w K mg base N_q_bound_names "bound_names" (defScope s_q_bound_names) a cdv A outer s H E) rfl
    have tk := takes_of (X := cxOf (L2.CX P w) P w K mg base N_q_bound_names "bound_names" (defScope s_q_bound_names) a cdv A outer s H E) (E := E) rfl rfl rfl rfl
    exact z_cons (z_set sc_q_bound_names.nd rfl (by first | exact Or.inl rfl | exact Or.inr rfl) (x_lst (y_nil))) (z_cons (z_if (t_eq hu (x_ix hu (x_var (pv 0)) (x_int)) (x_str)) (z_one (z_expr (x_append (x_var (pv 1)) (y_cons (x_ix hu (x_var (pv 0)) (x_int)) (y_nil))))) (z_nil)) (z_cons (z_for hps rfl (i_any (x_call C.c0 tk hr rfl (y_cons (x_var (pv 0)) (y_nil)))) (g_name sc_q_bound_names.nd rfl (by first | exact Or.inl rfl | exact Or.inr rfl)) (z_one (z_expr (x_extend (x_var (pv 1)) (y_cons (x_call C.c10 tk hr rfl (y_cons (x_var (pv 2)) (y_nil))) (y_nil)))))) (z_one (z_ret (x_var (pv 1))))))
theorem ok_q_binds_twice (F : Fun K "binds_twice" "binds_twice" s_q_binds_twice a fd) (T : Facts K mg) (C : Tabl P w K mg base ca wf k) : FnOk P w K mg base (L2.CX P w) (k + 1) a fd ["shape"] (spM K ca (run wf (k + 1) 11)) :=
  fn_ok (bd := Pg.b_rules_binds_twice (run wf k 10) wf) F sc_q_binds_twice 1 2 rfl rfl fun cdv A outer s H E hr => by
    have hu := room_big hr
    have hps := passes_of (X := cxOf (L2.CX P w) P w K mg base N_q_binds_twice "binds_twice" (defScope s_q_binds_twice) a cdv A outer s H E) rfl
    have tk := takes_of (X := cxOf (L2.CX P w) P w K mg base N_q_binds_twice "binds_twice" (defScope s_q_binds_twice) a cdv A outer s H E) (E := E) rfl rfl rfl rfl
    exact z_cons (z_set sc_q_binds_twice.nd rfl (by first | exact Or.inl rfl | exact Or.inr rfl) (x_call C.c10 tk hr rfl (y_cons (x_var (pv 0)) (y_nil)))) (z_one (z_ret (x_lt (x_lenSet rfl rfl T.n_len rfl T.n_set (x_var (pv 1))) (x_len rfl T.n_len (y_cons (x_var (pv 1)) (y_nil))))))
theorem ok_q_left_told (F : Fun K "left_told" "left_told" s_q_left_told a fd) (T : Facts K mg) (C : Tabl P w K mg base ca wf k) : FnOk P w K mg base (L2.CX P w) (k + 1) a fd ["left"] (spM K ca (run wf (k + 1) 12)) :=
  fn_ok (bd := Pg.b_rules_left_told (run wf k 5) (run wf k 6) wf) F sc_q_left_told 1 5 rfl rfl fun cdv A outer s H E hr => by
    have hu := room_big hr
    have hps := passes_of (X := cxOf (L2.CX P w) P w K mg base N_q_left_told "left_told" (defScope s_q_left_told) a cdv A outer s H E) rfl
    have tk := takes_of (X := cxOf (L2.CX P w) P w K mg base N_q_left_told "left_told" (defScope s_q_left_told) a cdv A outer s H E) (E := E) rfl rfl rfl rfl
    exact z_cons (z_set sc_q_left_told.nd rfl (by first | exact Or.inl rfl | exact Or.inr rfl) (x_call C.c6 tk hr rfl (y_cons (x_var (pv 0)) (y_nil)))) (z_cons (z_for hps rfl (i_any (x_call C.c5 tk hr rfl (y_cons (x_var (pv 0)) (y_nil)))) (g_name sc_q_left_told.nd rfl (by first | exact Or.inl rfl | exact Or.inr rfl)) (z_cons (z_setLc (own := [("atom", 4)]) rfl sc_q_left_told.nd rfl rfl (sw_true rfl rfl rfl (by decide +kernel)) (i_any (x_ix hu (x_var (pv 2)) (x_int))) (blkOk_by (N := N_q_left_told) (sc := defScope s_q_left_told) (by decide +kernel)) rfl (fun _ _ _ _ _ => g_name sc_q_left_told.nd rfl (by first | exact Or.inl rfl | exact Or.inr rfl)) (fun _ _ _ _ _ => q_one (t_eq hu (x_ix hu (x_var (pv 4)) (x_int)) (x_str))) (fun _ _ _ _ _ => x_ix hu (x_var (pv 4)) (x_int))) (z_one (z_if (tst_w (w_or (t_lt (x_lenSet rfl rfl T.n_len rfl T.n_set (x_var (pv 3))) (x_len rfl T.n_len (y_cons (x_ix hu (x_var (pv 2)) (x_int)) (y_nil)))) (w_or1 (t_ne hu (x_len rfl T.n_len (y_cons (x_ix hu (x_var (pv 2)) (x_int)) (y_nil))) (x_ix hu (x_var (pv 1)) (x_ix hu (x_var (pv 2)) (x_int))))))) (z_one (z_ret (x_bl))) (z_nil))))) (z_one (z_ret (x_bl))))
theorem ok_q_right_told (F : Fun K "right_told" "right_told" s_q_right_told a fd) (T : Facts K mg) (C : Tabl P w K mg base ca wf k) : FnOk P w K mg base (L2.CX P w) (k + 1) a fd ["right", "many", "kinds"] (spM K ca (run wf (k + 1) 13)) :=
  fn_ok (bd := Pg.b_rules_right_told (run wf k 5) (run wf k 7) wf) F sc_q_right_told 3 5 rfl rfl fun cdv A outer s H E hr => by
    have hu := room_big hr
    have hps := passes_of (X := cxOf (L2.CX P w) P w K mg base N_q_right_told "right_told" (defScope s_q_right_told) a cdv A outer s H E) rfl
    have tk := takes_of (X := cxOf (L2.CX P w) P w K mg base N_q_right_told "right_told" (defScope s_q_right_told) a cdv A outer s H E) (E := E) rfl rfl rfl rfl
    exact z_cons (z_for hps rfl (i_any (x_call C.c5 tk hr rfl (y_cons (x_var (pv 0)) (y_nil)))) (g_name sc_q_right_told.nd rfl (by first | exact Or.inl rfl | exact Or.inr rfl)) (z_cons (z_if (t_ne hu (x_get2 hu (x_var (pv 1)) (x_ix hu (x_var (pv 3)) (x_int)) (x_len rfl T.n_len (y_cons (x_ix hu (x_var (pv 3)) (x_int)) (y_nil)))) (x_len rfl T.n_len (y_cons (x_ix hu (x_var (pv 3)) (x_int)) (y_nil)))) (z_one (z_ret (x_bl))) (z_nil)) (z_one (z_for hps rfl (i_any (x_ix hu (x_var (pv 3)) (x_int))) (g_name sc_q_right_told.nd rfl (by first | exact Or.inl rfl | exact Or.inr rfl)) (z_one (z_if (tst_w (w_and (t_eq hu (x_ix hu (x_var (pv 4)) (x_int)) (x_str)) (w_and1 (t_ne hu (x_call C.c7 tk hr rfl (y_cons (x_ix hu (x_var (pv 4)) (x_int)) (y_cons (x_var (pv 2)) (y_nil)))) (x_str))))) (z_one (z_ret (x_bl))) (z_nil))))))) (z_one (z_ret (x_bl)))
theorem ok_q_kinds_told (F : Fun K "kinds_told" "kinds_told" s_q_kinds_told a fd) (T : Facts K mg) (C : Tabl P w K mg base ca wf k) : FnOk P w K mg base (L2.CX P w) (k + 1) a fd ["kinds", "many"] (spM K ca (run wf (k + 1) 14)) :=
  fn_ok (bd := Pg.b_rules_kinds_told wf) F sc_q_kinds_told 2 4 rfl rfl fun cdv A outer s H E hr => by
    have hu := room_big hr
    have hps := passes_of (X := cxOf (L2.CX P w) P w K mg base N_q_kinds_told "kinds_told" (defScope s_q_kinds_told) a cdv A outer s H E) rfl
    have tk := takes_of (X := cxOf (L2.CX P w) P w K mg base N_q_kinds_told "kinds_told" (defScope s_q_kinds_told) a cdv A outer s H E) (E := E) rfl rfl rfl rfl
    exact z_cons (z_for hps rfl (i_any (x_var (pv 0))) (g_tup sc_q_kinds_told.nd rfl (.cons rfl (by first | exact Or.inl rfl | exact Or.inr rfl) (by first | exact Or.inl rfl | exact Or.inr rfl) rfl (.cons rfl (by first | exact Or.inl rfl | exact Or.inr rfl) (by first | exact Or.inl rfl | exact Or.inr rfl) rfl (.nil)))) (z_one (z_if (tst_w (w_or (t_notin hu (x_var (pv 2)) (x_var (pv 1))) (w_or1 (tst_w (w_and (t_eq hu (x_var (pv 3)) (x_str)) (w_and1 (t_gt (x_ix hu (x_var (pv 1)) (x_var (pv 2))) (x_int)))))))) (z_one (z_ret (x_bl))) (z_nil)))) (z_one (z_ret (x_bl)))
theorem ok_q_why_none (F : Fun K "why_none" "why_none" s_q_why_none a fd) (T : Facts K mg) (C : Tabl P w K mg base ca wf k) : FnOk P w K mg base (L2.CX P w) (k + 1) a fd ["left", "right", "kinds"] (spM K ca (run wf (k + 1) 15)) :=
  fn_ok (bd := Pg.b_rules_why_none (run wf k 3) (run wf k 11) (run wf k 6) (run wf k 9) (run wf k 14) (run wf k 12) (run wf k 13) (run wf k 0) wf) F sc_q_why_none 3 5 rfl rfl fun cdv A outer s H E hr => by
    have hu := room_big hr
    have hps := passes_of (X := cxOf (L2.CX P w) P w K mg base N_q_why_none "why_none" (defScope s_q_why_none) a cdv A outer s H E) rfl
    have tk := takes_of (X := cxOf (L2.CX P w) P w K mg base N_q_why_none "why_none" (defScope s_q_why_none) a cdv A outer s H E) (E := E) rfl rfl rfl rfl
    exact z_cons (z_set sc_q_why_none.nd rfl (by first | exact Or.inl rfl | exact Or.inr rfl) (x_call C.c6 tk hr rfl (y_cons (x_var (pv 0)) (y_nil)))) (z_cons (z_if (t_eq hu (x_len rfl T.n_len (y_cons (x_call C.c0 tk hr rfl (y_cons (x_var (pv 0)) (y_nil))) (y_nil))) (x_int)) (z_one (z_ret (x_str))) (z_nil)) (z_cons (z_if (tst_w (w_or (tst_val (x_call C.c11 tk hr rfl (y_cons (x_var (pv 0)) (y_nil)))) (w_or1 (tst_val (x_call C.c11 tk hr rfl (y_cons (x_var (pv 1)) (y_nil))))))) (z_one (z_ret (x_str))) (z_nil)) (z_cons (z_if (tst_w (w_or (t_ne hu (x_call C.c3 tk hr rfl (y_cons (x_var (pv 0)) (y_nil))) (x_lst (y_nil))) (w_or1 (t_ne hu (x_call C.c3 tk hr rfl (y_cons (x_var (pv 1)) (y_nil))) (x_lst (y_nil)))))) (z_one (z_ret (x_str))) (z_nil)) (z_cons (z_if (tst_w (w_or (tst_not (tst_val (x_call C.c12 tk hr rfl (y_cons (x_var (pv 0)) (y_nil))))) (w_or1 (tst_not (tst_val (x_call C.c13 tk hr rfl (y_cons (x_var (pv 1)) (y_cons (x_var (pv 3)) (y_cons (x_var (pv 2)) (y_nil)))))))))) (z_one (z_ret (x_str))) (z_nil)) (z_cons (z_for hps rfl (i_any (x_call C.c6 tk hr rfl (y_cons (x_var (pv 1)) (y_nil)))) (g_name sc_q_why_none.nd rfl (by first | exact Or.inl rfl | exact Or.inr rfl)) (z_one (z_if (t_notin hu (x_var (pv 4)) (x_var (pv 3))) (z_one (z_ret (x_str))) (z_nil)))) (z_cons (z_if (tst_not (tst_val (x_call C.c14 tk hr rfl (y_cons (x_var (pv 2)) (y_cons (x_var (pv 3)) (y_nil)))))) (z_one (z_ret (x_str))) (z_nil)) (z_cons (z_if (tst_w (w_and (tst_val (x_call C.c9 tk hr rfl (y_cons (x_var (pv 1)) (y_nil)))) (w_and1 (tst_not (tst_val (x_call C.c9 tk hr rfl (y_cons (x_var (pv 0)) (y_nil)))))))) (z_one (z_ret (x_str))) (z_nil)) (z_one (z_ret (x_str))))))))))
theorem ok_q_form (F : Fun K "form" "form" s_q_form a fd) (T : Facts K mg) (C : Tabl P w K mg base ca wf k) : FnOk P w K mg base (L2.CX P w) (k + 1) a fd ["rule"] (spM K ca (run wf (k + 1) 16)) :=
  fn_ok (bd := Pg.b_rules_form (run wf k 15) wf) F sc_q_form 1 2 rfl rfl fun cdv A outer s H E hr => by
    have hu := room_big hr
    have hps := passes_of (X := cxOf (L2.CX P w) P w K mg base N_q_form "form" (defScope s_q_form) a cdv A outer s H E) rfl
    have tk := takes_of (X := cxOf (L2.CX P w) P w K mg base N_q_form "form" (defScope s_q_form) a cdv A outer s H E) (E := E) rfl rfl rfl rfl
    exact z_cons (z_set sc_q_form.nd rfl (by first | exact Or.inl rfl | exact Or.inr rfl) (x_call C.c15 tk hr rfl (y_cons (x_ix hu (x_var (pv 0)) (x_int)) (y_cons (x_ix hu (x_var (pv 0)) (x_int)) (y_cons (x_ix hu (x_var (pv 0)) (x_int)) (y_nil)))))) (z_one (z_if (t_ne hu (x_var (pv 1)) (x_str)) (z_one (z_bad)) (z_nil)))
theorem ok_q_has_let (F : Fun K "has_let" "has_let" s_q_has_let a fd) (T : Facts K mg) (C : Tabl P w K mg base ca wf k) : FnOk P w K mg base (L2.CX P w) (k + 1) a fd ["tree"] (spM K ca (run wf (k + 1) 17)) :=
  fn_ok (bd := Pg.b_reading_has_let (run wf k 17) (run wf k 0) wf) F sc_q_has_let 1 2 rfl rfl fun cdv A outer s H E hr => by
    have hu := room_big hr
    have hps := passes_of (X := cxOf (L2.CX P w) P w K mg base N_q_has_let "has_let" (defScope s_q_has_let) a cdv A outer s H E) rfl
    have tk := takes_of (X := cxOf (L2.CX P w) P w K mg base N_q_has_let "has_let" (defScope s_q_has_let) a cdv A outer s H E) (E := E) rfl rfl rfl rfl
    exact z_cons (z_if (t_eq hu (x_ix hu (x_var (pv 0)) (x_int)) (x_str)) (z_one (z_ret (x_bl))) (z_nil)) (z_cons (z_for hps rfl (i_any (x_call C.c0 tk hr rfl (y_cons (x_var (pv 0)) (y_nil)))) (g_name sc_q_has_let.nd rfl (by first | exact Or.inl rfl | exact Or.inr rfl)) (z_one (z_if (tst_val (x_call C.c17 tk hr rfl (y_cons (x_var (pv 1)) (y_nil)))) (z_one (z_ret (x_bl))) (z_nil)))) (z_one (z_ret (x_bl))))
theorem ok_q_look_at_pairs (F : Fun K "look_at_pairs" "look_at_pairs" s_q_look_at_pairs a fd) (T : Facts K mg) (C : Tabl P w K mg base ca wf k) : FnOk P w K mg base (L2.CX P w) (k + 1) a fd ["pairs"] (spM K ca (run wf (k + 1) 18)) :=
  fn_ok (bd := Pg.b_reading_look_at_pairs (run wf k 17) wf) F sc_q_look_at_pairs 1 3 rfl rfl fun cdv A outer s H E hr => by
    have hu := room_big hr
    have hps := passes_of (X := cxOf (L2.CX P w) P w K mg base N_q_look_at_pairs "look_at_pairs" (defScope s_q_look_at_pairs) a cdv A outer s H E) rfl
    have tk := takes_of (X := cxOf (L2.CX P w) P w K mg base N_q_look_at_pairs "look_at_pairs" (defScope s_q_look_at_pairs) a cdv A outer s H E) (E := E) rfl rfl rfl rfl
    exact z_cons (z_if (tst_w (w_or (t_eq hu (x_len rfl T.n_len (y_cons (x_var (pv 0)) (y_nil))) (x_int)) (w_or1 (t_gt (x_len rfl T.n_len (y_cons (x_var (pv 0)) (y_nil))) (x_int))))) (z_one (z_bad)) (z_nil)) (z_one (z_for hps rfl (i_any (x_var (pv 0))) (g_tup sc_q_look_at_pairs.nd rfl (.cons rfl (by first | exact Or.inl rfl | exact Or.inr rfl) (by first | exact Or.inl rfl | exact Or.inr rfl) rfl (.cons rfl (by first | exact Or.inl rfl | exact Or.inr rfl) (by first | exact Or.inl rfl | exact Or.inr rfl) rfl (.nil)))) (z_one (z_if (tst_w (w_or (tst_val (x_call C.c17 tk hr rfl (y_cons (x_var (pv 1)) (y_nil)))) (w_or1 (tst_val (x_call C.c17 tk hr rfl (y_cons (x_var (pv 2)) (y_nil))))))) (z_one (z_bad)) (z_nil)))))
theorem ok_q_same_heads (F : Fun K "same_heads" "same_heads" s_q_same_heads a fd) (T : Facts K mg) (C : Tabl P w K mg base ca wf k) : FnOk P w K mg base (L2.CX P w) (k + 1) a fd ["row"] (spM K ca (run wf (k + 1) 19)) :=
  fn_ok (bd := Pg.b_reading_same_heads wf) F sc_q_same_heads 1 3 rfl rfl fun cdv A outer s H E hr => by
    have hu := room_big hr
    have hps := passes_of (X := cxOf (L2.CX P w) P w K mg base N_q_same_heads "same_heads" (defScope s_q_same_heads) a cdv A outer s H E) rfl
    have tk := takes_of (X := cxOf (L2.CX P w) P w K mg base N_q_same_heads "same_heads" (defScope s_q_same_heads) a cdv A outer s H E) (E := E) rfl rfl rfl rfl
    exact z_cons (z_set sc_q_same_heads.nd rfl (by first | exact Or.inl rfl | exact Or.inr rfl) (x_ix hu (x_var (pv 0)) (x_int))) (z_cons (z_for hps rfl (i_any (x_var (pv 0))) (g_name sc_q_same_heads.nd rfl (by first | exact Or.inl rfl | exact Or.inr rfl)) (z_one (z_if (tst_w (w_or (t_ne hu (x_ix hu (x_var (pv 2)) (x_int)) (x_ix hu (x_var (pv 1)) (x_int))) (w_or1 (tst_w (w_and (t_in hu (x_ix hu (x_var (pv 2)) (x_int)) (x_glob T.g_LEAVES rfl)) (w_and1 (t_ne hu (x_ix hu (x_var (pv 2)) (x_int)) (x_ix hu (x_var (pv 1)) (x_int))))))))) (z_one (z_ret (x_bl))) (z_nil)))) (z_one (z_ret (x_ne hu (x_ix hu (x_var (pv 1)) (x_int)) (x_str)))))
theorem ok_q_shared_shape (F : Fun K "shared_shape" "shared_shape" s_q_shared_shape a fd) (T : Facts K mg) (C : Tabl P w K mg base ca wf k) : FnOk P w K mg base (L2.CX P w) (k + 1) a fd ["row", "rows"] (spM K ca (run wf (k + 1) 20)) :=
  fn_ok (bd := Pg.b_reading_shared_shape (run wf k 4) (run wf k 19) (run wf k 20) (run wf k 0) (run wf k 1) wf) F sc_q_shared_shape 2 5 rfl rfl fun cdv A outer s H E hr => by
    have hu := room_big hr
    have hps := passes_of (X := cxOf (L2.CX P w) P w K mg base N_q_shared_shape "shared_shape" (defScope s_q_shared_shape) a cdv A outer s H E) rfl
    have tk := takes_of (X := cxOf (L2.CX P w) P w K mg base N_q_shared_shape "shared_shape" (defScope s_q_shared_shape) a cdv A outer s H E) (E := E) rfl rfl rfl rfl
    exact z_cons (z_if (tst_not (tst_val (x_call C.c19 tk hr rfl (y_cons (x_var (pv 0)) (y_nil))))) (z_cons (z_if (t_notin hu (x_var (pv 0)) (x_var (pv 1))) (z_one (z_expr (x_append (x_var (pv 1)) (y_cons (x_var (pv 0)) (y_nil))))) (z_nil)) (z_one (z_ret (x_tup (y_cons (x_str) (y_cons (x_add (x_str) (x_call C.c4 tk hr rfl (y_cons (x_index hu (x_var (pv 1)) (y_cons (x_var (pv 0)) (y_nil))) (y_nil)))) (y_cons (x_tup (y_nil)) (y_nil)))))))) (z_nil)) (z_cons (z_set sc_q_shared_shape.nd rfl (by first | exact Or.inl rfl | exact Or.inr rfl) (x_lst (y_nil))) (z_cons (z_for hps rfl (i_rng1 rfl T.n_range (y_cons (x_len rfl T.n_len (y_cons (x_call C.c0 tk hr rfl (y_cons (x_ix hu (x_var (pv 0)) (x_int)) (y_nil))) (y_nil))) (y_nil))) (g_name sc_q_shared_shape.nd rfl (by first | exact Or.inl rfl | exact Or.inr rfl)) (z_one (z_expr (x_append (x_var (pv 2)) (y_cons (x_call C.c20 tk hr rfl (y_cons (x_lc (own := [("tree", 4)]) rfl sc_q_shared_shape.nd (i_any (x_var (pv 0))) (blkOk_by (N := N_q_shared_shape) (sc := defScope s_q_shared_shape) (by decide +kernel)) rfl (fun _ _ _ _ _ => g_name sc_q_shared_shape.nd rfl (by first | exact Or.inl rfl | exact Or.inr rfl)) (fun _ _ _ _ _ => q_nil) (fun _ _ _ _ _ => x_ix hu (x_call C.c0 takes0 hr rfl (y_cons (x_var (pv 4)) (y_nil))) (x_var (pv 3)))) (y_cons (x_var (pv 1)) (y_nil)))) (y_nil)))))) (z_one (z_ret (x_call C.c1 tk hr rfl (y_cons (x_ix hu (x_var (pv 0)) (x_int)) (y_cons (x_var (pv 2)) (y_nil))))))))
theorem ok_q_kind_for (F : Fun K "kind_for" "kind_for" s_q_kind_for a fd) (T : Facts K mg) (C : Tabl P w K mg base ca wf k) : FnOk P w K mg base (L2.CX P w) (k + 1) a fd ["row"] (spM K ca (run wf (k + 1) 21)) :=
  fn_ok (bd := Pg.b_reading_kind_for (run wf k 8) wf) F sc_q_kind_for 1 2 rfl rfl fun cdv A outer s H E hr => by
    have hu := room_big hr
    have hps := passes_of (X := cxOf (L2.CX P w) P w K mg base N_q_kind_for "kind_for" (defScope s_q_kind_for) a cdv A outer s H E) rfl
    have tk := takes_of (X := cxOf (L2.CX P w) P w K mg base N_q_kind_for "kind_for" (defScope s_q_kind_for) a cdv A outer s H E) (E := E) rfl rfl rfl rfl
    exact z_cons (z_if (t_eq hu (x_len rfl T.n_len (y_cons (x_lc (own := [("tree", 1)]) rfl sc_q_kind_for.nd (i_any (x_var (pv 0))) (blkOk_by (N := N_q_kind_for) (sc := defScope s_q_kind_for) (by decide +kernel)) rfl (fun _ _ _ _ _ => g_name sc_q_kind_for.nd rfl (by first | exact Or.inl rfl | exact Or.inr rfl)) (fun _ _ _ _ _ => q_one (t_ne hu (x_ix hu (x_var (pv 1)) (x_int)) (x_str))) (fun _ _ _ _ _ => x_var (pv 1))) (y_nil))) (x_int)) (z_one (z_ret (x_str))) (z_nil)) (z_cons (z_if (t_eq hu (x_len rfl T.n_len (y_cons (x_lc (own := [("tree", 1)]) rfl sc_q_kind_for.nd (i_any (x_var (pv 0))) (blkOk_by (N := N_q_kind_for) (sc := defScope s_q_kind_for) (by decide +kernel)) rfl (fun _ _ _ _ _ => g_name sc_q_kind_for.nd rfl (by first | exact Or.inl rfl | exact Or.inr rfl)) (fun _ _ _ _ _ => q_one (tst_not (tst_val (x_callE C.c8_1 takes0 hr rfl (fun _ _ => ⟨_, _, rfl, rfl, rfl⟩) (y_cons (x_var (pv 1)) (y_nil)))))) (fun _ _ _ _ _ => x_var (pv 1))) (y_nil))) (x_int)) (z_one (z_ret (x_str))) (z_nil)) (z_one (z_ret (x_non))))
theorem ok_q_read_off (F : Fun K "read_off" "read_off" s_q_read_off a fd) (T : Facts K mg) (C : Tabl P w K mg base ca wf k) : FnOk P w K mg base (L2.CX P w) (k + 1) a fd ["pairs"] (spM K ca (run wf (k + 1) 22)) :=
  fn_ok (bd := Pg.b_reading_read_off (run wf k 4) (run wf k 21) (run wf k 18) (run wf k 20) (run wf k 16) wf) F sc_q_read_off 1 10 rfl rfl fun cdv A outer s H E hr => by
    have hu := room_big hr
    have hps := passes_of (X := cxOf (L2.CX P w) P w K mg base N_q_read_off "read_off" (defScope s_q_read_off) a cdv A outer s H E) rfl
    have tk := takes_of (X := cxOf (L2.CX P w) P w K mg base N_q_read_off "read_off" (defScope s_q_read_off) a cdv A outer s H E) (E := E) rfl rfl rfl rfl
    exact z_cons (z_expr (x_call C.c18 tk hr rfl (y_cons (x_var (pv 0)) (y_nil)))) (z_cons (z_set sc_q_read_off.nd rfl (by first | exact Or.inl rfl | exact Or.inr rfl) (x_lst (y_nil))) (z_cons (z_set sc_q_read_off.nd rfl (by first | exact Or.inl rfl | exact Or.inr rfl) (x_call C.c20 tk hr rfl (y_cons (x_lc (own := [("pair", 3)]) rfl sc_q_read_off.nd (i_any (x_var (pv 0))) (blkOk_by (N := N_q_read_off) (sc := defScope s_q_read_off) (by decide +kernel)) rfl (fun _ _ _ _ _ => g_name sc_q_read_off.nd rfl (by first | exact Or.inl rfl | exact Or.inr rfl)) (fun _ _ _ _ _ => q_nil) (fun _ _ _ _ _ => x_ix hu (x_var (pv 3)) (x_int))) (y_cons (x_var (pv 1)) (y_nil))))) (z_cons (z_set sc_q_read_off.nd rfl (by first | exact Or.inl rfl | exact Or.inr rfl) (x_call C.c20 tk hr rfl (y_cons (x_lc (own := [("pair", 3)]) rfl sc_q_read_off.nd (i_any (x_var (pv 0))) (blkOk_by (N := N_q_read_off) (sc := defScope s_q_read_off) (by decide +kernel)) rfl (fun _ _ _ _ _ => g_name sc_q_read_off.nd rfl (by first | exact Or.inl rfl | exact Or.inr rfl)) (fun _ _ _ _ _ => q_nil) (fun _ _ _ _ _ => x_ix hu (x_var (pv 3)) (x_int))) (y_cons (x_var (pv 1)) (y_nil))))) (z_cons (z_set sc_q_read_off.nd rfl (by first | exact Or.inl rfl | exact Or.inr rfl) (x_dict0)) (z_cons (z_for hps rfl (i_enum rfl T.n_enumerate (y_cons (x_var (pv 1)) (y_nil))) (g_tup sc_q_read_off.nd rfl (.cons rfl (by first | exact Or.inl rfl | exact Or.inr rfl) (by first | exact Or.inl rfl | exact Or.inr rfl) rfl (.cons rfl (by first | exact Or.inl rfl | exact Or.inr rfl) (by first | exact Or.inl rfl | exact Or.inr rfl) rfl (.nil)))) (z_one (z_if (t_notN (x_call C.c21 tk hr rfl (y_cons (x_var (pv 7)) (y_nil))) (x_non)) (z_one (z_put hu (x_var (pv 5)) (x_add (x_str) (x_call C.c4 tk hr rfl (y_cons (x_var (pv 6)) (y_nil)))) (x_call C.c21 tk hr rfl (y_cons (x_var (pv 7)) (y_nil))))) (z_nil)))) (z_cons (z_set sc_q_read_off.nd rfl (by first | exact Or.inl rfl | exact Or.inr rfl) (x_tup (y_cons (x_var (pv 2)) (y_cons (x_var (pv 4)) (y_cons (x_tuple rfl T.n_tuple (y_cons (x_lc (own := [("gap", 9)]) rfl sc_q_read_off.nd (i_any (x_sorted rfl rfl T.n_sorted (y_cons (x_var (pv 5)) (y_nil)))) (blkOk_by (N := N_q_read_off) (sc := defScope s_q_read_off) (by decide +kernel)) rfl (fun _ _ _ _ _ => g_name sc_q_read_off.nd rfl (by first | exact Or.inl rfl | exact Or.inr rfl)) (fun _ _ _ _ _ => q_nil) (fun _ _ _ _ _ => x_tup (y_cons (x_var (pv 9)) (y_cons (x_ix hu (x_var (pv 5)) (x_var (pv 9))) (y_nil))))) (y_nil))) (y_nil)))))) (z_cons (z_expr (x_call C.c16 tk hr rfl (y_cons (x_var (pv 8)) (y_nil)))) (z_one (z_ret (x_var (pv 8)))))))))))
theorem ok_q_law_cell_at (F : Fun K "_law_cell_at" "_law_cell_at" s_q_law_cell_at a fd) (T : Facts K mg) (C : Tabl P w K mg base ca wf k) : FnOk P w K mg base (L2.CX P w) (k + 1) a fd ["_law_script", "_law_k"] (spM K ca (run wf (k + 1) 23)) :=
  fn_ok (bd := b_q_law_cell_at wf) F sc_q_law_cell_at 2 2 rfl rfl fun cdv A outer s H E hr => by
    have hu := room_big hr
    have hps := passes_of (X := cxOf (L2.CX P w) P w K mg base N_q_law_cell_at "_law_cell_at" (defScope s_q_law_cell_at) a cdv A outer s H E) rfl
    have tk := takes_of (X := cxOf (L2.CX P w) P w K mg base N_q_law_cell_at "_law_cell_at" (defScope s_q_law_cell_at) a cdv A outer s H E) (E := E) rfl rfl rfl rfl
    exact z_cons (z_if (t_lt (x_var (pv 1)) (x_len rfl T.n_len (y_cons (x_var (pv 0)) (y_nil)))) (z_one (z_ret (x_ix hu (x_var (pv 0)) (x_var (pv 1))))) (z_nil)) (z_one (z_ret (x_int)))
theorem ok_q_law_shape (F : Fun K "_law_shape" "_law_shape" s_q_law_shape a fd) (T : Facts K mg) (C : Tabl P w K mg base ca wf k) : FnOk P w K mg base (L2.CX P w) (k + 1) a fd ["_law_cells", "_law_deep", "_law_marks"] (spM K ca (run wf (k + 1) 24)) :=
  fn_ok (bd := b_q_law_shape (run wf k 24) wf) F sc_q_law_shape 3 7 rfl rfl fun cdv A outer s H E hr => by
    have hu := room_big hr
    have hps := passes_of (X := cxOf (L2.CX P w) P w K mg base N_q_law_shape "_law_shape" (defScope s_q_law_shape) a cdv A outer s H E) rfl
    have tk := takes_of (X := cxOf (L2.CX P w) P w K mg base N_q_law_shape "_law_shape" (defScope s_q_law_shape) a cdv A outer s H E) (E := E) rfl rfl rfl rfl
    exact z_cons (z_if (t_eq hu (x_len rfl T.n_len (y_cons (x_var (pv 0)) (y_nil))) (x_int)) (z_one (z_ret (x_tup (y_cons (x_str) (y_cons (x_ix hu (x_var (pv 2)) (x_mod (x_var (pv 1)) (x_len rfl T.n_len (y_cons (x_var (pv 2)) (y_nil))))) (y_cons (x_tup (y_nil)) (y_nil))))))) (z_nil)) (z_cons (z_set sc_q_law_shape.nd rfl (by first | exact Or.inl rfl | exact Or.inr rfl) (x_mod (x_mul (x_ix hu (x_var (pv 0)) (x_int)) (x_int)) (x_int))) (z_cons (z_if (tst_w (w_or (t_eq hu (x_len rfl T.n_len (y_cons (x_var (pv 0)) (y_nil))) (x_int)) (w_or1 (t_eq hu (x_var (pv 1)) (x_int))))) (z_cons (z_if (t_eq hu (x_mod (x_var (pv 3)) (x_int)) (x_int)) (z_one (z_ret (x_tup (y_cons (x_str) (y_cons (x_mod (x_ix hu (x_var (pv 0)) (x_int)) (x_pow (x_int) (x_int))) (y_nil)))))) (z_nil)) (z_one (z_ret (x_tup (y_cons (x_str) (y_cons (x_ix hu (x_var (pv 2)) (x_mod (x_div (x_var (pv 3)) (x_int)) (x_len rfl T.n_len (y_cons (x_var (pv 2)) (y_nil))))) (y_cons (x_tup (y_nil)) (y_nil)))))))) (z_nil)) (z_cons (z_set sc_q_law_shape.nd rfl (by first | exact Or.inl rfl | exact Or.inr rfl) (x_add (x_int) (x_mod (x_div (x_var (pv 3)) (x_int)) (x_len rfl T.n_len (y_cons (x_var (pv 0)) (y_nil)))))) (z_cons (z_set sc_q_law_shape.nd rfl (by first | exact Or.inl rfl | exact Or.inr rfl) (x_call C.c24 tk hr rfl (y_cons (x_cut (x_var (pv 0)) (o_some (x_int)) (o_some (x_var (pv 4)))) (y_cons (x_sub (x_var (pv 1)) (x_int)) (y_cons (x_var (pv 2)) (y_nil)))))) (z_cons (z_set sc_q_law_shape.nd rfl (by first | exact Or.inl rfl | exact Or.inr rfl) (x_call C.c24 tk hr rfl (y_cons (x_cut (x_var (pv 0)) (o_some (x_var (pv 4))) (o_none)) (y_cons (x_sub (x_var (pv 1)) (x_int)) (y_cons (x_var (pv 2)) (y_nil)))))) (z_cons (z_if (t_lt (x_mod (x_var (pv 3)) (x_int)) (x_int)) (z_one (z_ret (x_tup (y_cons (x_str) (y_cons (x_var (pv 6)) (y_cons (x_tup (y_cons (x_str) (y_cons (x_mod (x_div (x_var (pv 3)) (x_int)) (x_int)) (y_nil)))) (y_cons (x_var (pv 5)) (y_nil)))))))) (z_nil)) (z_one (z_ret (x_tup (y_cons (x_ix hu (x_lst (y_cons (x_str) (y_cons (x_str) (y_cons (x_str) (y_cons (x_str) (y_nil)))))) (x_mod (x_var (pv 3)) (x_int))) (y_cons (x_var (pv 5)) (y_cons (x_var (pv 6)) (y_nil)))))))))))))
theorem ok_q_law_gaps (F : Fun K "_law_gaps" "_law_gaps" s_q_law_gaps a fd) (T : Facts K mg) (C : Tabl P w K mg base ca wf k) : FnOk P w K mg base (L2.CX P w) (k + 1) a fd ["_law_shape_here"] (spM K ca (run wf (k + 1) 25)) :=
  fn_ok (bd := b_q_law_gaps (run wf k 25) wf) F sc_q_law_gaps 1 3 rfl rfl fun cdv A outer s H E hr => by
    have hu := room_big hr
    have hps := passes_of (X := cxOf (L2.CX P w) P w K mg base N_q_law_gaps "_law_gaps" (defScope s_q_law_gaps) a cdv A outer s H E) rfl
    have tk := takes_of (X := cxOf (L2.CX P w) P w K mg base N_q_law_gaps "_law_gaps" (defScope s_q_law_gaps) a cdv A outer s H E) (E := E) rfl rfl rfl rfl
    exact z_cons (z_if (t_eq hu (x_ix hu (x_var (pv 0)) (x_int)) (x_str)) (z_one (z_ret (x_lst (y_cons (x_ix hu (x_var (pv 0)) (x_int)) (y_nil))))) (z_nil)) (z_cons (z_set sc_q_law_gaps.nd rfl (by first | exact Or.inl rfl | exact Or.inr rfl) (x_lst (y_nil))) (z_cons (z_for hps rfl (i_any (x_cut (x_var (pv 0)) (o_some (x_int)) (o_none))) (g_name sc_q_law_gaps.nd rfl (by first | exact Or.inl rfl | exact Or.inr rfl)) (z_one (z_if (tst_val (x_isi rfl T.n_isinstance (y_cons (x_var (pv 2)) (y_cons (x_ty rfl T.n_tuple (by decide +kernel)) (y_nil))))) (z_one (z_set sc_q_law_gaps.nd rfl (by first | exact Or.inl rfl | exact Or.inr rfl) (x_add (x_var (pv 1)) (x_call C.c25 tk hr rfl (y_cons (x_var (pv 2)) (y_nil)))))) (z_nil)))) (z_one (z_ret (x_var (pv 1))))))
theorem ok_q_law_leaf (F : Fun K "_law_leaf" "_law_leaf" s_q_law_leaf a fd) (T : Facts K mg) (C : Tabl P w K mg base ca wf k) : FnOk P w K mg base (L2.CX P w) (k + 1) a fd ["_law_cell", "_law_kind"] (spM K ca (run wf (k + 1) 26)) :=
  fn_ok (bd := b_q_law_leaf wf) F sc_q_law_leaf 2 3 rfl rfl fun cdv A outer s H E hr => by
    have hu := room_big hr
    have hps := passes_of (X := cxOf (L2.CX P w) P w K mg base N_q_law_leaf "_law_leaf" (defScope s_q_law_leaf) a cdv A outer s H E) rfl
    have tk := takes_of (X := cxOf (L2.CX P w) P w K mg base N_q_law_leaf "_law_leaf" (defScope s_q_law_leaf) a cdv A outer s H E) (E := E) rfl rfl rfl rfl
    exact z_cons (z_if (t_eq hu (x_var (pv 1)) (x_int)) (z_one (z_ret (x_tup (y_cons (x_str) (y_cons (x_ix hu (x_lst (y_cons (x_mod (x_div (x_var (pv 0)) (x_int)) (x_int)) (y_cons (x_mod (x_div (x_var (pv 0)) (x_int)) (x_pow (x_int) (x_int))) (y_nil)))) (x_div (x_mod (x_div (x_var (pv 0)) (x_int)) (x_int)) (x_int))) (y_nil)))))) (z_nil)) (z_cons (z_set sc_q_law_leaf.nd rfl (by first | exact Or.inl rfl | exact Or.inr rfl) (x_mod (x_var (pv 0)) (x_ix hu (x_lst (y_cons (x_int) (y_cons (x_int) (y_cons (x_int) (y_cons (x_int) (y_nil)))))) (x_var (pv 1))))) (z_cons (z_if (t_lt (x_var (pv 2)) (x_int)) (z_one (z_ret (x_tup (y_cons (x_str) (y_cons (x_mod (x_div (x_var (pv 0)) (x_int)) (x_int)) (y_nil)))))) (z_nil)) (z_cons (z_if (t_eq hu (x_var (pv 2)) (x_int)) (z_one (z_ret (x_tup (y_cons (x_str) (y_cons (x_ix hu (x_lst (y_cons (x_str) (y_cons (x_str) (y_nil)))) (x_mod (x_div (x_var (pv 0)) (x_int)) (x_int))) (y_nil)))))) (z_nil)) (z_one (z_ret (x_tup (y_cons (x_ix hu (x_lst (y_cons (x_str) (y_cons (x_str) (y_cons (x_str) (y_nil))))) (x_mod (x_div (x_var (pv 0)) (x_int)) (x_int))) (y_cons (x_ix hu (x_lst (y_cons (x_str) (y_cons (x_str) (y_nil)))) (x_mod (x_div (x_var (pv 0)) (x_int)) (x_int))) (y_nil)))))))))
theorem ok_q_law_piece (F : Fun K "_law_piece" "_law_piece" s_q_law_piece a fd) (T : Facts K mg) (C : Tabl P w K mg base ca wf k) : FnOk P w K mg base (L2.CX P w) (k + 1) a fd ["_law_cell", "_law_kind"] (spM K ca (run wf (k + 1) 27)) :=
  fn_ok (bd := b_q_law_piece (run wf k 26) wf) F sc_q_law_piece 2 5 rfl rfl fun cdv A outer s H E hr => by
    have hu := room_big hr
    have hps := passes_of (X := cxOf (L2.CX P w) P w K mg base N_q_law_piece "_law_piece" (defScope s_q_law_piece) a cdv A outer s H E) rfl
    have tk := takes_of (X := cxOf (L2.CX P w) P w K mg base N_q_law_piece "_law_piece" (defScope s_q_law_piece) a cdv A outer s H E) (E := E) rfl rfl rfl rfl
    exact z_cons (z_set sc_q_law_piece.nd rfl (by first | exact Or.inl rfl | exact Or.inr rfl) (x_mod (x_mul (x_var (pv 0)) (x_int)) (x_int))) (z_cons (z_set sc_q_law_piece.nd rfl (by first | exact Or.inl rfl | exact Or.inr rfl) (x_call C.c26 tk hr rfl (y_cons (x_var (pv 0)) (y_cons (x_var (pv 1)) (y_nil))))) (z_cons (z_if (tst_w (w_or (t_eq hu (x_var (pv 1)) (x_int)) (w_or1 (t_lt (x_mod (x_var (pv 2)) (x_int)) (x_int))))) (z_one (z_ret (x_var (pv 3)))) (z_nil)) (z_cons (z_set sc_q_law_piece.nd rfl (by first | exact Or.inl rfl | exact Or.inr rfl) (x_call C.c26 tk hr rfl (y_cons (x_div (x_var (pv 2)) (x_int)) (y_cons (x_var (pv 1)) (y_nil))))) (z_cons (z_if (tst_w (w_and (t_eq hu (x_mod (x_var (pv 2)) (x_int)) (x_int)) (w_and1 (t_eq hu (x_var (pv 1)) (x_int))))) (z_one (z_ret (x_tup (y_cons (x_str) (y_cons (x_var (pv 3)) (y_nil)))))) (z_nil)) (z_cons (z_if (t_eq hu (x_mod (x_var (pv 2)) (x_int)) (x_int)) (z_one (z_ret (x_tup (y_cons (x_str) (y_cons (x_var (pv 3)) (y_cons (x_var (pv 4)) (y_cons (x_var (pv 3)) (y_nil)))))))) (z_nil)) (z_one (z_ret (x_tup (y_cons (x_ix hu (x_lst (y_cons (x_str) (y_cons (x_str) (y_nil)))) (x_mod (x_var (pv 2)) (x_int))) (y_cons (x_var (pv 3)) (y_cons (x_var (pv 4)) (y_nil))))))))))))
theorem ok_q_law_filled (F : Fun K "_law_filled" "_law_filled" s_q_law_filled a fd) (T : Facts K mg) (C : Tabl P w K mg base ca wf k) : FnOk P w K mg base (L2.CX P w) (k + 1) a fd ["_law_shape_here", "_law_filling"] (spM K ca (run wf (k + 1) 28)) :=
  fn_ok (bd := b_q_law_filled (run wf k 28) wf) F sc_q_law_filled 2 4 rfl rfl fun cdv A outer s H E hr => by
    have hu := room_big hr
    have hps := passes_of (X := cxOf (L2.CX P w) P w K mg base N_q_law_filled "_law_filled" (defScope s_q_law_filled) a cdv A outer s H E) rfl
    have tk := takes_of (X := cxOf (L2.CX P w) P w K mg base N_q_law_filled "_law_filled" (defScope s_q_law_filled) a cdv A outer s H E) (E := E) rfl rfl rfl rfl
    exact z_cons (z_if (t_eq hu (x_ix hu (x_var (pv 0)) (x_int)) (x_str)) (z_one (z_ret (x_ix hu (x_var (pv 1)) (x_ix hu (x_var (pv 0)) (x_int))))) (z_nil)) (z_cons (z_set sc_q_law_filled.nd rfl (by first | exact Or.inl rfl | exact Or.inr rfl) (x_lst (y_cons (x_ix hu (x_var (pv 0)) (x_int)) (y_nil)))) (z_cons (z_for hps rfl (i_any (x_cut (x_var (pv 0)) (o_some (x_int)) (o_none))) (g_name sc_q_law_filled.nd rfl (by first | exact Or.inl rfl | exact Or.inr rfl)) (z_one (z_if (tst_val (x_isi rfl T.n_isinstance (y_cons (x_var (pv 3)) (y_cons (x_ty rfl T.n_tuple (by decide +kernel)) (y_nil))))) (z_one (z_expr (x_append (x_var (pv 2)) (y_cons (x_call C.c28 tk hr rfl (y_cons (x_var (pv 3)) (y_cons (x_var (pv 1)) (y_nil)))) (y_nil))))) (z_one (z_expr (x_append (x_var (pv 2)) (y_cons (x_var (pv 3)) (y_nil)))))))) (z_one (z_ret (x_tuple rfl T.n_tuple (y_cons (x_var (pv 2)) (y_nil)))))))
theorem ok_q_law_fit (F : Fun K "_law_fit" "_law_fit" s_q_law_fit a fd) (T : Facts K mg) (C : Tabl P w K mg base ca wf k) : FnOk P w K mg base (L2.CX P w) (k + 1) a fd ["_law_shape_here", "_law_tree", "_law_filling"] (spM K ca (run wf (k + 1) 29)) :=
  fn_ok (bd := b_q_law_fit (run wf k 29) wf) F sc_q_law_fit 3 5 rfl rfl fun cdv A outer s H E hr => by
    have hu := room_big hr
    have hps := passes_of (X := cxOf (L2.CX P w) P w K mg base N_q_law_fit "_law_fit" (defScope s_q_law_fit) a cdv A outer s H E) rfl
    have tk := takes_of (X := cxOf (L2.CX P w) P w K mg base N_q_law_fit "_law_fit" (defScope s_q_law_fit) a cdv A outer s H E) (E := E) rfl rfl rfl rfl
    exact z_cons (z_if (t_eq hu (x_ix hu (x_var (pv 0)) (x_int)) (x_str)) (z_cons (z_if (t_notin hu (x_ix hu (x_var (pv 0)) (x_int)) (x_var (pv 2))) (z_one (z_put hu (x_var (pv 2)) (x_ix hu (x_var (pv 0)) (x_int)) (x_var (pv 1)))) (z_nil)) (z_one (z_ret (x_eq hu (x_ix hu (x_var (pv 2)) (x_ix hu (x_var (pv 0)) (x_int))) (x_var (pv 1)))))) (z_nil)) (z_cons (z_if (tst_w (w_or (t_ne hu (x_ix hu (x_var (pv 0)) (x_int)) (x_ix hu (x_var (pv 1)) (x_int))) (w_or1 (t_ne hu (x_len rfl T.n_len (y_cons (x_var (pv 0)) (y_nil))) (x_len rfl T.n_len (y_cons (x_var (pv 1)) (y_nil))))))) (z_one (z_ret (x_bl))) (z_nil)) (z_cons (z_for hps rfl (i_zip rfl T.n_zip (y_cons (x_cut (x_var (pv 0)) (o_some (x_int)) (o_none)) (y_cons (x_cut (x_var (pv 1)) (o_some (x_int)) (o_none)) (y_nil)))) (g_tup sc_q_law_fit.nd rfl (.cons rfl (by first | exact Or.inl rfl | exact Or.inr rfl) (by first | exact Or.inl rfl | exact Or.inr rfl) rfl (.cons rfl (by first | exact Or.inl rfl | exact Or.inr rfl) (by first | exact Or.inl rfl | exact Or.inr rfl) rfl (.nil)))) (z_one (z_if (tst_not (tst_val (x_isi rfl T.n_isinstance (y_cons (x_var (pv 3)) (y_cons (x_ty rfl T.n_tuple (by decide +kernel)) (y_nil)))))) (z_one (z_if (t_ne hu (x_var (pv 3)) (x_var (pv 4))) (z_one (z_ret (x_bl))) (z_nil))) (z_one (z_if (tst_not (tst_val (x_call C.c29 tk hr rfl (y_cons (x_var (pv 3)) (y_cons (x_var (pv 4)) (y_cons (x_var (pv 2)) (y_nil))))))) (z_one (z_ret (x_bl))) (z_nil)))))) (z_one (z_ret (x_bl)))))
theorem ok_q_law_loud (F : Fun K "_law_loud" "_law_loud" s_q_law_loud a fd) (T : Facts K mg) (C : Tabl P w K mg base ca wf k) : FnOk P w K mg base (L2.CX P w) (k + 1) a fd ["_law_tree"] (spM K ca (run wf (k + 1) 30)) :=
  fn_ok (bd := b_q_law_loud (run wf k 30) wf) F sc_q_law_loud 1 2 rfl rfl fun cdv A outer s H E hr => by
    have hu := room_big hr
    have hps := passes_of (X := cxOf (L2.CX P w) P w K mg base N_q_law_loud "_law_loud" (defScope s_q_law_loud) a cdv A outer s H E) rfl
    have tk := takes_of (X := cxOf (L2.CX P w) P w K mg base N_q_law_loud "_law_loud" (defScope s_q_law_loud) a cdv A outer s H E) (E := E) rfl rfl rfl rfl
    exact z_cons (z_if (t_in hu (x_ix hu (x_var (pv 0)) (x_int)) (x_tup (y_cons (x_str) (y_cons (x_str) (y_cons (x_str) (y_nil)))))) (z_one (z_ret (x_bl))) (z_nil)) (z_cons (z_for hps rfl (i_any (x_cut (x_var (pv 0)) (o_some (x_int)) (o_none))) (g_name sc_q_law_loud.nd rfl (by first | exact Or.inl rfl | exact Or.inr rfl)) (z_one (z_if (tst_w (w_and (tst_val (x_isi rfl T.n_isinstance (y_cons (x_var (pv 1)) (y_cons (x_ty rfl T.n_tuple (by decide +kernel)) (y_nil))))) (w_and1 (tst_val (x_call C.c30 tk hr rfl (y_cons (x_var (pv 1)) (y_nil))))))) (z_one (z_ret (x_bl))) (z_nil)))) (z_one (z_ret (x_bl))))
theorem ok_q_law_head (F : Fun K "_law_head" "_law_head" s_q_law_head a fd) (T : Facts K mg) (C : Tabl P w K mg base ca wf k) : FnOk P w K mg base (L2.CX P w) (k + 1) a fd ["_law_tree"] (spM K ca (run wf (k + 1) 31)) :=
  fn_ok (bd := b_q_law_head wf) F sc_q_law_head 1 1 rfl rfl fun cdv A outer s H E hr => by
    have hu := room_big hr
    have hps := passes_of (X := cxOf (L2.CX P w) P w K mg base N_q_law_head "_law_head" (defScope s_q_law_head) a cdv A outer s H E) rfl
    have tk := takes_of (X := cxOf (L2.CX P w) P w K mg base N_q_law_head "_law_head" (defScope s_q_law_head) a cdv A outer s H E) (E := E) rfl rfl rfl rfl
    exact z_cons (z_if (tst_val (x_isi rfl T.n_isinstance (y_cons (x_ix hu (x_var (pv 0)) (x_int)) (y_cons (x_ty rfl T.n_tuple (by decide +kernel)) (y_nil))))) (z_one (z_ret (x_cut (x_var (pv 0)) (o_none) (o_some (x_int))))) (z_nil)) (z_one (z_ret (x_cut (x_var (pv 0)) (o_none) (o_some (x_int)))))
theorem ok_q_law_row_good (F : Fun K "_law_row_good" "_law_row_good" s_q_law_row_good a fd) (T : Facts K mg) (C : Tabl P w K mg base ca wf k) : FnOk P w K mg base (L2.CX P w) (k + 1) a fd ["_law_row", "_law_kind"] (spM K ca (run wf (k + 1) 32)) :=
  fn_ok (bd := b_q_law_row_good (run wf k 31) (run wf k 30) wf) F sc_q_law_row_good 2 4 rfl rfl fun cdv A outer s H E hr => by
    have hu := room_big hr
    have hps := passes_of (X := cxOf (L2.CX P w) P w K mg base N_q_law_row_good "_law_row_good" (defScope s_q_law_row_good) a cdv A outer s H E) rfl
    have tk := takes_of (X := cxOf (L2.CX P w) P w K mg base N_q_law_row_good "_law_row_good" (defScope s_q_law_row_good) a cdv A outer s H E) (E := E) rfl rfl rfl rfl
    exact z_cons (z_setLc (own := [("_law_tree", 3)]) rfl sc_q_law_row_good.nd rfl rfl (sw_true rfl rfl rfl (by decide +kernel)) (i_any (x_var (pv 0))) (blkOk_by (N := N_q_law_row_good) (sc := defScope s_q_law_row_good) (by decide +kernel)) rfl (fun _ _ _ _ _ => g_name sc_q_law_row_good.nd rfl (by first | exact Or.inl rfl | exact Or.inr rfl)) (fun _ _ _ _ _ => q_one (tst_w (w_or (t_eq hu (x_ix hu (x_var (pv 3)) (x_int)) (x_str)) (w_or1 (t_ne hu (x_call C.c31 takes0 hr rfl (y_cons (x_var (pv 3)) (y_nil))) (x_call C.c31 takes0 hr rfl (y_cons (x_ix hu (x_var (pv 0)) (x_int)) (y_nil)))))))) (fun _ _ _ _ _ => x_var (pv 3))) (z_cons (z_if (t_eq hu (x_var (pv 2)) (x_lst (y_nil))) (z_one (z_ret (x_bl))) (z_nil)) (z_cons (z_if (t_eq hu (x_lc (own := [("_law_tree", 3)]) rfl sc_q_law_row_good.nd (i_any (x_var (pv 0))) (blkOk_by (N := N_q_law_row_good) (sc := defScope s_q_law_row_good) (by decide +kernel)) rfl (fun _ _ _ _ _ => g_name sc_q_law_row_good.nd rfl (by first | exact Or.inl rfl | exact Or.inr rfl)) (fun _ _ _ _ _ => q_one (t_ne hu (x_ix hu (x_var (pv 3)) (x_int)) (x_str))) (fun _ _ _ _ _ => x_var (pv 3))) (x_lst (y_nil))) (z_one (z_ret (x_eq hu (x_var (pv 1)) (x_str)))) (z_nil)) (z_cons (z_if (t_eq hu (x_lc (own := [("_law_tree", 3)]) rfl sc_q_law_row_good.nd (i_any (x_var (pv 0))) (blkOk_by (N := N_q_law_row_good) (sc := defScope s_q_law_row_good) (by decide +kernel)) rfl (fun _ _ _ _ _ => g_name sc_q_law_row_good.nd rfl (by first | exact Or.inl rfl | exact Or.inr rfl)) (fun _ _ _ _ _ => q_one (tst_val (x_call C.c30 takes0 hr rfl (y_cons (x_var (pv 3)) (y_nil))))) (fun _ _ _ _ _ => x_var (pv 3))) (x_lst (y_nil))) (z_one (z_ret (x_eq hu (x_var (pv 1)) (x_str)))) (z_nil)) (z_one (z_ret (x_eq hu (x_var (pv 1)) (x_str)))))))
theorem ok_q_law_told (F : Fun K "_law_told" "_law_told" s_q_law_told a fd) (T : Facts K mg) (C : Tabl P w K mg base ca wf k) : FnOk P w K mg base (L2.CX P w) (k + 1) a fd ["_law_rule", "_law_pairs"] (spM K ca (run wf (k + 1) 33)) :=
  fn_ok (bd := b_q_law_told (run wf k 29) (run wf k 32) wf) F sc_q_law_told 2 10 rfl rfl fun cdv A outer s H E hr => by
    have hu := room_big hr
    have hps := passes_of (X := cxOf (L2.CX P w) P w K mg base N_q_law_told "_law_told" (defScope s_q_law_told) a cdv A outer s H E) rfl
    have tk := takes_of (X := cxOf (L2.CX P w) P w K mg base N_q_law_told "_law_told" (defScope s_q_law_told) a cdv A outer s H E) (E := E) rfl rfl rfl rfl
    exact z_cons (z_if (tst_w (w_or (tst_not (tst_val (x_isi rfl T.n_isinstance (y_cons (x_var (pv 0)) (y_cons (x_ty rfl T.n_tuple (by decide +kernel)) (y_nil)))))) (w_or1 (t_ne hu (x_len rfl T.n_len (y_cons (x_var (pv 0)) (y_nil))) (x_int))))) (z_one (z_ret (x_bl))) (z_nil)) (z_cons (z_set sc_q_law_told.nd rfl (by first | exact Or.inl rfl | exact Or.inr rfl) (x_lst (y_nil))) (z_cons (z_for hps rfl (i_any (x_var (pv 1))) (g_tup sc_q_law_told.nd rfl (.cons rfl (by first | exact Or.inl rfl | exact Or.inr rfl) (by first | exact Or.inl rfl | exact Or.inr rfl) rfl (.cons rfl (by first | exact Or.inl rfl | exact Or.inr rfl) (by first | exact Or.inl rfl | exact Or.inr rfl) rfl (.nil)))) (z_cons (z_set sc_q_law_told.nd rfl (by first | exact Or.inl rfl | exact Or.inr rfl) (x_dict0)) (z_cons (z_if (tst_w (w_or (tst_not (tst_val (x_call C.c29 tk hr rfl (y_cons (x_ix hu (x_var (pv 0)) (x_int)) (y_cons (x_var (pv 3)) (y_cons (x_var (pv 5)) (y_nil))))))) (w_or1 (tst_not (tst_val (x_call C.c29 tk hr rfl (y_cons (x_ix hu (x_var (pv 0)) (x_int)) (y_cons (x_var (pv 4)) (y_cons (x_var (pv 5)) (y_nil)))))))))) (z_one (z_ret (x_bl))) (z_nil)) (z_one (z_expr (x_append (x_var (pv 2)) (y_cons (x_var (pv 5)) (y_nil)))))))) (z_cons (z_set sc_q_law_told.nd rfl (by first | exact Or.inl rfl | exact Or.inr rfl) (x_dictF rfl rfl T.n_dict (y_cons (x_ix hu (x_var (pv 0)) (x_int)) (y_nil)))) (z_cons (z_set sc_q_law_told.nd rfl (by first | exact Or.inl rfl | exact Or.inr rfl) (x_lst (y_nil))) (z_cons (z_for hps rfl (i_any (x_sorted rfl rfl T.n_sorted (y_cons (x_ix hu (x_var (pv 2)) (x_int)) (y_nil)))) (g_name sc_q_law_told.nd rfl (by first | exact Or.inl rfl | exact Or.inr rfl)) (z_cons (z_setLc (own := [("_law_filling", 5)]) rfl sc_q_law_told.nd rfl rfl (sw_true rfl rfl rfl (by decide +kernel)) (i_any (x_var (pv 2))) (blkOk_by (N := N_q_law_told) (sc := defScope s_q_law_told) (by decide +kernel)) rfl (fun _ _ _ _ _ => g_name sc_q_law_told.nd rfl (by first | exact Or.inl rfl | exact Or.inr rfl)) (fun _ _ _ _ _ => q_nil) (fun _ _ _ _ _ => x_ix hu (x_var (pv 5)) (x_var (pv 8)))) (z_cons (z_if (tst_w (w_or (t_in hu (x_var (pv 9)) (x_var (pv 7))) (w_or1 (tst_not (tst_val (x_call C.c32 tk hr rfl (y_cons (x_var (pv 9)) (y_cons (x_get2 hu (x_var (pv 6)) (x_var (pv 8)) (x_str)) (y_nil))))))))) (z_one (z_ret (x_bl))) (z_nil)) (z_one (z_expr (x_append (x_var (pv 7)) (y_cons (x_var (pv 9)) (y_nil)))))))) (z_one (z_ret (x_eq hu (x_lc (own := [("_law_gap", 8)]) rfl sc_q_law_told.nd (i_any (x_var (pv 6))) (blkOk_by (N := N_q_law_told) (sc := defScope s_q_law_told) (by decide +kernel)) rfl (fun _ _ _ _ _ => g_name sc_q_law_told.nd rfl (by first | exact Or.inl rfl | exact Or.inr rfl)) (fun _ _ _ _ _ => q_one (t_notin hu (x_var (pv 8)) (x_ix hu (x_var (pv 2)) (x_int)))) (fun _ _ _ _ _ => x_var (pv 8))) (x_lst (y_nil))))))))))
theorem ok_q_law_fillings (F : Fun K "_law_fillings" "_law_fillings" s_q_law_fillings a fd) (T : Facts K mg) (C : Tabl P w K mg base ca wf k) : FnOk P w K mg base (L2.CX P w) (k + 1) a fd ["_law_script", "_law_marks", "_law_cell"] (spM K ca (run wf (k + 1) 34)) :=
  fn_ok (bd := b_q_law_fillings (run wf k 23) (run wf k 27) wf) F sc_q_law_fillings 3 8 rfl rfl fun cdv A outer s H E hr => by
    have hu := room_big hr
    have hps := passes_of (X := cxOf (L2.CX P w) P w K mg base N_q_law_fillings "_law_fillings" (defScope s_q_law_fillings) a cdv A outer s H E) rfl
    have tk := takes_of (X := cxOf (L2.CX P w) P w K mg base N_q_law_fillings "_law_fillings" (defScope s_q_law_fillings) a cdv A outer s H E) (E := E) rfl rfl rfl rfl
    exact z_cons (z_set sc_q_law_fillings.nd rfl (by first | exact Or.inl rfl | exact Or.inr rfl) (x_lst (y_nil))) (z_cons (z_for hps rfl (i_rng1 rfl T.n_range (y_cons (x_add (x_int) (x_mod (x_var (pv 2)) (x_int))) (y_nil))) (g_name sc_q_law_fillings.nd rfl (by first | exact Or.inl rfl | exact Or.inr rfl)) (z_cons (z_set sc_q_law_fillings.nd rfl (by first | exact Or.inl rfl | exact Or.inr rfl) (x_dict0)) (z_cons (z_for hps rfl (i_rng1 rfl T.n_range (y_cons (x_len rfl T.n_len (y_cons (x_var (pv 1)) (y_nil))) (y_nil))) (g_name sc_q_law_fillings.nd rfl (by first | exact Or.inl rfl | exact Or.inr rfl)) (z_cons (z_set sc_q_law_fillings.nd rfl (by first | exact Or.inl rfl | exact Or.inr rfl) (x_mod (x_div (x_var (pv 2)) (x_mul (x_int) (x_add (x_mul (x_var (pv 6)) (x_var (pv 6))) (x_int)))) (x_int))) (z_one (z_put hu (x_var (pv 5)) (x_ix hu (x_var (pv 1)) (x_var (pv 6))) (x_call C.c27 tk hr rfl (y_cons (x_call C.c23 tk hr rfl (y_cons (x_var (pv 0)) (y_cons (x_add (x_add (x_int) (x_mul (x_int) (x_var (pv 4)))) (x_var (pv 6))) (y_nil)))) (y_cons (x_var (pv 7)) (y_nil)))))))) (z_one (z_expr (x_append (x_var (pv 3)) (y_cons (x_var (pv 5)) (y_nil)))))))) (z_cons (z_if (tst_w (w_and (t_gt (x_len rfl T.n_len (y_cons (x_var (pv 1)) (y_nil))) (x_int)) (w_and1 (t_gt (x_mod (x_div (x_var (pv 2)) (x_int)) (x_int)) (x_int))))) (z_one (z_for hps rfl (i_any (x_cut (x_var (pv 3)) (o_some (x_sub (x_mod (x_div (x_var (pv 2)) (x_int)) (x_int)) (x_int))) (o_none))) (g_name sc_q_law_fillings.nd rfl (by first | exact Or.inl rfl | exact Or.inr rfl)) (z_one (z_put hu (x_var (pv 5)) (x_ix hu (x_var (pv 1)) (x_int)) (x_ix hu (x_var (pv 5)) (x_ix hu (x_var (pv 1)) (x_int))))))) (z_nil)) (z_one (z_ret (x_var (pv 3))))))
theorem ok_q_law (F : Fun K "law" "law" s_q_law a fd) (T : Facts K mg) (C : Tabl P w K mg base ca wf k) : FnOk P w K mg base (L2.CX P w) (k + 1) a fd ["_law_script"] (spM K ca (run wf (k + 1) 35)) :=
  fn_ok (bd := b_q_law (run wf k 23) (run wf k 28) (run wf k 34) (run wf k 25) (run wf k 24) (run wf k 33) (run wf k 22) wf) F sc_q_law 1 10 rfl rfl fun cdv A outer s H E hr => by
    have hu := room_big hr
    have hps := passes_of (X := cxOf (L2.CX P w) P w K mg base N_q_law "law" (defScope s_q_law) a cdv A outer s H E) rfl
    have tk := takes_of (X := cxOf (L2.CX P w) P w K mg base N_q_law "law" (defScope s_q_law) a cdv A outer s H E) (E := E) rfl rfl rfl rfl
    exact z_cons (z_set sc_q_law.nd rfl (by first | exact Or.inl rfl | exact Or.inr rfl) (x_call C.c23 tk hr rfl (y_cons (x_var (pv 0)) (y_cons (x_int) (y_nil))))) (z_cons (z_set sc_q_law.nd rfl (by first | exact Or.inl rfl | exact Or.inr rfl) (x_cut (x_lst (y_cons (x_str) (y_cons (x_str) (y_cons (x_str) (y_cons (x_str) (y_cons (x_str) (y_nil))))))) (o_none) (o_some (x_add (x_int) (x_mod (x_div (x_var (pv 1)) (x_int)) (x_int)))))) (z_cons (z_set sc_q_law.nd rfl (by first | exact Or.inl rfl | exact Or.inr rfl) (x_tup (y_cons (x_str) (y_cons (x_call C.c24 tk hr rfl (y_cons (x_cut (x_var (pv 0)) (o_some (x_int)) (o_some (x_int))) (y_cons (x_int) (y_cons (x_var (pv 2)) (y_nil))))) (y_cons (x_call C.c24 tk hr rfl (y_cons (x_cut (x_var (pv 0)) (o_some (x_int)) (o_some (x_int))) (y_cons (x_int) (y_cons (x_var (pv 2)) (y_nil))))) (y_nil)))))) (z_cons (z_set sc_q_law.nd rfl (by first | exact Or.inl rfl | exact Or.inr rfl) (x_call C.c25 tk hr rfl (y_cons (x_var (pv 3)) (y_nil)))) (z_cons (z_set sc_q_law.nd rfl (by first | exact Or.inl rfl | exact Or.inr rfl) (x_tup (y_cons (x_str) (y_cons (x_int) (y_nil))))) (z_cons (z_if (t_ne hu (x_var (pv 4)) (x_lst (y_nil))) (z_one (z_set sc_q_law.nd rfl (by first | exact Or.inl rfl | exact Or.inr rfl) (x_call C.c24 tk hr rfl (y_cons (x_cut (x_var (pv 0)) (o_some (x_int)) (o_some (x_int))) (y_cons (x_int) (y_cons (x_var (pv 4)) (y_nil))))))) (z_nil)) (z_cons (z_set sc_q_law.nd rfl (by first | exact Or.inl rfl | exact Or.inr rfl) (x_lst (y_nil))) (z_cons (z_for hps rfl (i_any (x_call C.c34 tk hr rfl (y_cons (x_var (pv 0)) (y_cons (x_var (pv 2)) (y_cons (x_call C.c23 tk hr rfl (y_cons (x_var (pv 0)) (y_cons (x_int) (y_nil)))) (y_nil)))))) (g_name sc_q_law.nd rfl (by first | exact Or.inl rfl | exact Or.inr rfl)) (z_one (z_expr (x_append (x_var (pv 6)) (y_cons (x_tup (y_cons (x_call C.c28 tk hr rfl (y_cons (x_var (pv 3)) (y_cons (x_var (pv 7)) (y_nil)))) (y_cons (x_call C.c28 tk hr rfl (y_cons (x_var (pv 5)) (y_cons (x_var (pv 7)) (y_nil)))) (y_nil)))) (y_nil)))))) (z_cons (z_set sc_q_law.nd rfl (by first | exact Or.inl rfl | exact Or.inr rfl) (x_list rfl T.n_list (y_cons (x_var (pv 6)) (y_nil)))) (z_cons (z_set sc_q_law.nd rfl (by first | exact Or.inl rfl | exact Or.inr rfl) (x_call C.c22 tk hr rfl (y_cons (x_var (pv 8)) (y_nil)))) (z_cons (z_if (tst_w (w_or (tst_not (tst_val (x_call C.c33 tk hr rfl (y_cons (x_var (pv 9)) (y_cons (x_var (pv 6)) (y_nil)))))) (w_or1 (t_ne hu (x_var (pv 8)) (x_var (pv 6)))))) (z_one (z_ret (x_bl))) (z_nil)) (z_cons (z_if (t_gt (x_len rfl T.n_len (y_cons (x_var (pv 6)) (y_nil))) (x_int)) (z_one (z_if (tst_w (w_or (tst_not (tst_val (x_call C.c33 tk hr rfl (y_cons (x_call C.c22 tk hr rfl (y_cons (x_cut (x_var (pv 6)) (o_some (x_int)) (o_none)) (y_nil))) (y_cons (x_cut (x_var (pv 6)) (o_some (x_int)) (o_none)) (y_nil)))))) (w_or1 (tst_not (tst_val (x_call C.c33 tk hr rfl (y_cons (x_var (pv 9)) (y_cons (x_var (pv 6)) (y_nil))))))))) (z_one (z_ret (x_bl))) (z_nil))) (z_nil)) (z_cons (z_if (t_eq hu (x_len rfl T.n_len (y_cons (x_var (pv 6)) (y_nil))) (x_int)) (z_one (z_ret (x_bl))) (z_nil)) (z_one (z_ret (x_call C.c33 tk hr rfl (y_cons (x_call C.c22 tk hr rfl (y_cons (x_add (x_var (pv 6)) (x_cut (x_var (pv 6)) (o_none) (o_some (x_int)))) (y_nil))) (y_cons (x_var (pv 6)) (y_nil))))))))))))))))))
end
end K71
namespace K71
open PySem Dn Pg
open L2 (atI ixN Key)
theorem forRun_inv (it : Nat → Sto → Option (Option PV)) (g : Tg) (body : DS) (xs : List PV) (P : Nat → En → Sto → Prop) (R : Nat → PV → Sto → Prop)
    (hit : ∀ i en S, i ≤ xs.length → P i en S → it i S = some xs[i]?)
    (hst : ∀ i x en S, xs[i]? = some x → P i en S → ∃ en1, g.f x en = some en1 ∧ ((∃ en2 S2, body en1 S = .next en2 S2 ∧ P (i + 1) en2 S2) ∨ (∃ v S2, body en1 S = .ret v S2 ∧ R i v S2))) :
    ∀ (m i : Nat) (en : En) (S : Sto), i + m = xs.length → P i en S →
      (∃ en' S', forRun it g body (m + 1) i en S = .next en' S' ∧ P xs.length en' S') ∨ (∃ j v S', j < xs.length ∧ forRun it g body (m + 1) i en S = .ret v S' ∧ R j v S') := by
  intro m
  induction m with
  | zero =>
    intro i en S hm hp
    have e := hit i en S (by omega) hp
    rw [List.getElem?_eq_none_iff.mpr (by omega)] at e
    have hi : i = xs.length := by omega
    subst hi
    exact .inl ⟨en, S, by simp [forRun, e], hp⟩
  | succ m ih =>
    intro i en S hm hp
    have e := hit i en S (by omega) hp
    have hi : i < xs.length := by omega
    rw [List.getElem?_eq_getElem hi] at e
    obtain ⟨en1, h1, h2⟩ := hst i xs[i] en S (List.getElem?_eq_getElem hi) hp
    unfold forRun
    rw [e]
    simp only [h1]
    rcases h2 with ⟨en2, S2, h3, h4⟩ | ⟨v, S2, h3, h4⟩
    · rw [h3]
      exact ih (i + 1) en2 S2 (by omega) h4
    · rw [h3]
      exact .inr ⟨i, v, S2, hi, rfl, h4⟩
/-- a loop with no way out ahead of its end -/
theorem forRun_all (it : Nat → Sto → Option (Option PV)) (g : Tg) (body : DS) (xs : List PV) (P : Nat → En → Sto → Prop)
    (hit : ∀ i en S, i ≤ xs.length → P i en S → it i S = some xs[i]?)
    (hst : ∀ i x en S, xs[i]? = some x → P i en S → ∃ en1 en2 S2, g.f x en = some en1 ∧ body en1 S = .next en2 S2 ∧ P (i + 1) en2 S2)
    (en : En) (S : Sto) (h : P 0 en S) : ∃ en' S', forRun it g body (xs.length + 1) 0 en S = .next en' S' ∧ P xs.length en' S' := by
  rcases forRun_inv it g body xs P (fun _ _ _ => False) hit (fun i x en S e hp => by
    obtain ⟨en1, en2, S2, h1, h2, h3⟩ := hst i x en S e hp
    exact ⟨en1, h1, .inl ⟨en2, S2, h2, h3⟩⟩) xs.length 0 en S (by omega) h with h | ⟨_, _, _, _, _, h⟩
  · exact h
  · exact h.elim
theorem lcRun_pure (it : Nat → Sto → Option (Option PV)) (g : Tg) (tt : DT) (te : DE) (S0 : Sto) (en : En) (xs : List PV) (p : PV → Bool) (q : PV → PV) (hl : xs.length < 10000)
    (hit : ∀ i acc, it i (S0 ++ [.lst acc]) = some xs[i]?)
    (hst : ∀ x ∈ xs, ∀ acc, ∃ en1, g.f x en = some en1 ∧ tt en1 (S0 ++ [.lst acc]) = .ok (p x) (S0 ++ [.lst acc]) ∧ (p x = true → te en1 (S0 ++ [.lst acc]) = .ok (q x) (S0 ++ [.lst acc]))) :
    ∀ (m i : Nat) (acc : List PV), i + m = xs.length → acc.length ≤ i → lcRun it g tt te S0.length (m + 1) i en (S0 ++ [.lst acc]) = .ok (.ref S0.length) (S0 ++ [.lst (acc ++ ((xs.drop i).filter p).map q)]) := by
  intro m
  induction m with
  | zero =>
    intro i acc hm ha
    unfold lcRun
    rw [hit, List.getElem?_eq_none_iff.mpr (by omega)]
    simp [List.drop_eq_nil_of_le (show xs.length ≤ i by omega)]
  | succ m ih =>
    intro i acc hm ha
    have hi : i < xs.length := by omega
    unfold lcRun
    rw [hit, List.getElem?_eq_getElem hi]
    obtain ⟨en1, h1, h2, h3⟩ := hst xs[i] (List.getElem_mem hi) acc
    simp only [h1, h2]
    have hd : (xs.drop i) = xs[i] :: xs.drop (i + 1) := List.drop_eq_getElem_cons hi
    rw [hd]
    cases hp : p xs[i] with
    | false =>
      simp only
      rw [ih (i + 1) acc (by omega) (by omega)]
      rw [List.filter_cons, if_neg (by rw [hp]; exact Bool.false_ne_true)]
    | true =>
      simp only [h3 hp]
      simp only [List.getElem?_append_right (Nat.le_refl _), Nat.sub_self, List.getElem?_cons_zero]
      rw [if_pos (by simp; omega)]
      rw [show (S0 ++ [MO.lst acc]).set S0.length (.lst (acc ++ [q xs[i]])) = S0 ++ [.lst (acc ++ [q xs[i]])] by simp [List.set_append]]
      rw [ih (i + 1) _ (by omega) (by simp; omega)]
      rw [List.filter_cons, if_pos hp, List.map_cons, List.append_assoc, List.singleton_append]
theorem eLc_pure (m : DP) (g : Tg) (tt : DT) (te : DE) (S0 : Sto) (en : En) (P : Prv) (xs : List PV) (p : PV → Bool) (q : PV → PV) (hm : m en S0 = .ok P S0) (hn : P.n = xs.length) (hl : xs.length < 10000)
    (hit : ∀ i acc, P.it i (S0 ++ [.lst acc]) = some xs[i]?)
    (hst : ∀ x ∈ xs, ∀ acc, ∃ en1, g.f x (wipeP en g.sl) = some en1 ∧ tt en1 (S0 ++ [.lst acc]) = .ok (p x) (S0 ++ [.lst acc]) ∧ (p x = true → te en1 (S0 ++ [.lst acc]) = .ok (q x) (S0 ++ [.lst acc]))) :
    eLc m g tt te en S0 = .ok (.ref S0.length) (S0 ++ [.lst ((xs.filter p).map q)]) := by
  unfold eLc
  rw [hm]
  show lcRun P.it g tt te S0.length (P.n + 1) 0 (wipeP en g.sl) (S0 ++ [.lst []]) = _
  rw [hn, lcRun_pure P.it g tt te S0 _ xs p q hl hit hst xs.length 0 [] (by omega) (Nat.le_refl _)]
  simp
theorem pre_get {S S' : Sto} {i : Nat} {x : MO} (h : S <+: S') (e : S[i]? = some x) : S'[i]? = some x := by
  obtain ⟨G, rfl⟩ := h
  rw [List.getElem?_append_left]
  · exact e
  · exact (List.getElem?_eq_some_iff.mp e).1
@[simp] theorem get_end (S : Sto) (x : MO) : (S ++ [x])[S.length]? = some x := by simp
inductive Lf where
  | num (n : Int) | name (x : Str) | ask (x : Str) | stop (x : Str)
  deriving DecidableEq
inductive T where
  | lf (l : Lf) | gap (g : Str) | one (a : T) | two (o : Op2) (a b : T) | thr (a b c : T)
  deriving DecidableEq
def Lf.sg : Lf → Sg
  | .num _ => .num | .name _ => .name | .ask _ => .ask | .stop _ => .stop
def Lf.val : Lf → PV
  | .num n => .int n | .name x => .str x | .ask x => .str x | .stop x => .str x
def T.sg : T → Sg
  | .lf l => l.sg | .gap _ => .gap | .one _ => .say | .two o _ _ => o.sg | .thr _ _ _ => .ifc
def T.enc : T → PV
  | .lf l => .tup [.str l.sg.str, l.val]
  | .gap g => .tup [.str Sg.gap.str, .str g, .tup []]
  | .one a => .tup [.str Sg.say.str, a.enc]
  | .two o a b => .tup [.str o.sg.str, a.enc, b.enc]
  | .thr a b c => .tup [.str Sg.ifc.str, a.enc, b.enc, c.enc]
def T.parts : T → List T
  | .one a => [a] | .two _ a b => [a, b] | .thr a b c => [a, b, c] | _ => []
@[simp] theorem ix_enc0 (t : T) (S : Sto) : fIx t.enc (.int 0) S = .ok (.str t.sg.str) S := by cases t <;> simp [T.enc, T.sg]
theorem parts_ok (wf : Nat) (S : Sto) (t : T) : fnD 1 1 (b_trees_parts wf) [t.enc] S = .ok (.tup (t.parts.map T.enc)) S := by
  cases t with
  | two o a b => cases o <;> simp [fnD, rS, b_trees_parts, T.enc, T.parts, c_LEAVES, inFlat, flatP, fCut, cutP, HT.sIx, Op2.sg]
  | lf l => cases l <;> simp [fnD, rS, b_trees_parts, T.enc, T.parts, c_LEAVES, inFlat, flatP, fCut, cutP, HT.sIx, Lf.sg]
  | _ => simp [fnD, rS, b_trees_parts, T.enc, T.parts, c_LEAVES, inFlat, flatP, fCut, cutP, HT.sIx]
/-- tree's sign, its parts put anew -/
def T.wp : T → List PV → PV
  | .lf l, _ => (T.lf l).enc
  | .gap g, _ => (T.gap g).enc
  | .one _, xs => .tup (.str Sg.say.str :: xs)
  | .two o _ _, xs => .tup (.str o.sg.str :: xs)
  | .thr _ _ _, xs => .tup (.str Sg.ifc.str :: xs)
theorem with_parts_ok (wf : Nat) (S : Sto) (t : T) (n : Nat) (xs : List PV) (h : S[n]? = some (.lst xs)) (hl : xs.length < 100) : fnD 2 2 (b_trees_with_parts wf) [t.enc, .ref n] S = .ok (t.wp xs) S := by
  have h1 : xs.length + 1 ≤ 16777216 := by omega
  have h2 : 1 + xs.length ≤ 16777216 := by omega
  cases t with
  | two o a b => cases o <;> simp [fnD, rS, b_trees_with_parts, T.enc, T.wp, c_LEAVES, inFlat, flatP, fCut, cutP, HT.sIx, Op2.sg, fTuple, lstAt, h, fAdd, h1, h2]
  | lf l => cases l <;> simp [fnD, rS, b_trees_with_parts, T.enc, T.wp, c_LEAVES, inFlat, flatP, fCut, cutP, HT.sIx, Lf.sg]
  | gap g => simp [fnD, rS, b_trees_with_parts, T.enc, T.wp, c_LEAVES, inFlat, flatP, fCut, cutP, HT.sIx]
  | _ => simp [fnD, rS, b_trees_with_parts, T.enc, T.wp, c_LEAVES, inFlat, flatP, fCut, cutP, HT.sIx, fTuple, lstAt, h, fAdd, h1, h2]
end K71
namespace K71
open PySem Dn Pg
open L2 (atI ixN Key)
def T.deep : T → Nat
  | .one a => a.deep + 1
  | .two _ a b => max a.deep b.deep + 1
  | .thr a b c => max a.deep (max b.deep c.deep) + 1
  | _ => 1
theorem T.deep_part {t u : T} (h : u ∈ t.parts) : u.deep < t.deep := by
  cases t <;> simp [T.parts] at h <;> simp [T.deep]
  case one a => subst h; omega
  case two o a b => rcases h with rfl | rfl <;> omega
  case thr a b c => rcases h with rfl | rfl | rfl <;> omega
@[simp] theorem Op2.sg_lt (o : Op2) : (o.sg = .lt) = False := by cases o <;> simp [Op2.sg]
@[simp] theorem Op2.sg_gap (o : Op2) : (o.sg = .gap) = False := by cases o <;> simp [Op2.sg]
@[simp] theorem Op2.sg_name (o : Op2) : (o.sg = .name) = False := by cases o <;> simp [Op2.sg]
@[simp] theorem Op2.sg_num (o : Op2) : (o.sg = .num) = False := by cases o <;> simp [Op2.sg]
@[simp] theorem Op2.sg_ask (o : Op2) : (o.sg = .ask) = False := by cases o <;> simp [Op2.sg]
@[simp] theorem Op2.sg_stop (o : Op2) : (o.sg = .stop) = False := by cases o <;> simp [Op2.sg]
@[simp] theorem Op2.sg_say (o : Op2) : (o.sg = .say) = False := by cases o <;> simp [Op2.sg]
@[simp] theorem Op2.sg_ifc (o : Op2) : (o.sg = .ifc) = False := by cases o <;> simp [Op2.sg]
@[simp] theorem Op2.gap_sg (o : Op2) : (Sg.gap = o.sg) = False := by cases o <;> simp [Op2.sg]
@[simp] theorem Op2.name_sg (o : Op2) : (Sg.name = o.sg) = False := by cases o <;> simp [Op2.sg]
@[simp] theorem Op2.num_sg (o : Op2) : (Sg.num = o.sg) = False := by cases o <;> simp [Op2.sg]
@[simp] theorem Op2.ask_sg (o : Op2) : (Sg.ask = o.sg) = False := by cases o <;> simp [Op2.sg]
@[simp] theorem Op2.stop_sg (o : Op2) : (Sg.stop = o.sg) = False := by cases o <;> simp [Op2.sg]
@[simp] theorem Op2.say_sg (o : Op2) : (Sg.say = o.sg) = False := by cases o <;> simp [Op2.sg]
@[simp] theorem Op2.ifc_sg (o : Op2) : (Sg.ifc = o.sg) = False := by cases o <;> simp [Op2.sg]
@[simp] theorem Op2.sg_inj (o p : Op2) : (o.sg = p.sg) = (o = p) := by cases o <;> cases p <;> simp [Op2.sg]
@[simp] theorem T.sg_lt (t : T) : (t.sg = .lt) = False := by cases t <;> simp [T.sg] <;> (rename_i l; cases l <;> simp [Lf.sg])
def T.loud : T → Bool
  | .one _ => true
  | .lf (.ask _) => true
  | .lf (.stop _) => true
  | .two _ a b => a.loud || b.loud
  | .thr a b c => a.loud || (b.loud || c.loud)
  | _ => false
def T.plain : T → Bool
  | .gap _ => false
  | .lf _ => true
  | .one a => a.plain
  | .two _ a b => a.plain && b.plain
  | .thr a b c => a.plain && (b.plain && c.plain)
/-- no name stands in it -/
def T.nameless : T → Bool
  | .lf (.name _) => false
  | .one a => a.nameless
  | .two _ a b => a.nameless && b.nameless
  | .thr a b c => a.nameless && (b.nameless && c.nameless)
  | _ => true
/-- its gaps' names -/
def T.gaps : T → List Str
  | .gap g => [g]
  | .one a => a.gaps
  | .two _ a b => a.gaps ++ b.gaps
  | .thr a b c => a.gaps ++ (b.gaps ++ c.gaps)
  | _ => []
@[simp] theorem ix_gap1 (g : Str) (S : Sto) : fIx (T.gap g).enc (.int 1) S = .ok (.str g) S := by simp [T.enc]
@[simp] theorem ix_gap2 (g : Str) (S : Sto) : fIx (T.gap g).enc (.int 2) S = .ok (.tup []) S := by simp [T.enc]
section
variable {fp fs fk : Fn} (wf : Nat) (t : T) (S : Sto) (hp : ∀ (u : T) S, fp [u.enc] S = .ok (.tup (u.parts.map T.enc)) S)
include hp
theorem has_let_ok (hs : ∀ u ∈ t.parts, fs [u.enc] S = .ok (.bl false) S) : fnD 1 2 (b_reading_has_let fs fp wf) [t.enc] S = .ok (.bl false) S := by
  cases t <;> simp [T.parts] at hs <;> simp [fnD, rS, b_reading_has_let, hp, T.parts, for_tup, r_forL1, hs]
theorem is_loud_ok (hs : ∀ u ∈ t.parts, fs [u.enc] S = .ok (.bl u.loud) S) : fnD 1 2 (b_rules_is_loud fs fp wf) [t.enc] S = .ok (.bl t.loud) S := by
  cases t with
  | lf l => cases l <;> simp [fnD, rS, b_rules_is_loud, hp, T.parts, T.sg, Lf.sg, for_tup, c_LOUD, inFlat, flatP, T.loud]
  | gap g => simp [fnD, rS, b_rules_is_loud, hp, T.parts, T.sg, for_tup, c_LOUD, inFlat, flatP, T.loud]
  | one a => simp [fnD, rS, b_rules_is_loud, hp, T.parts, T.sg, for_tup, c_LOUD, inFlat, flatP, T.loud]
  | two o a b =>
    simp [T.parts] at hs
    cases ha : a.loud <;> cases hb : b.loud <;> simp [ha, hb] at hs <;> simp [fnD, rS, b_rules_is_loud, hp, T.parts, T.sg, for_tup, c_LOUD, inFlat, flatP, T.loud, r_forL1, hs, *]
  | thr a b c =>
    simp [T.parts] at hs
    cases ha : a.loud <;> cases hb : b.loud <;> cases hc : c.loud <;> simp [ha, hb, hc] at hs <;> simp [fnD, rS, b_rules_is_loud, hp, T.parts, T.sg, for_tup, c_LOUD, inFlat, flatP, T.loud, r_forL1, hs, *]
theorem is_quiet_ok (k : PV) (hk : k = .non ∨ k = .tup []) (ht : t.plain = true) (hs : ∀ u ∈ t.parts, fs [u.enc, .tup []] S = .ok (.bl (!u.loud)) S) : fnD 2 3 (b_rules_is_quiet fs fk fp wf) [t.enc, k] S = .ok (.bl (!t.loud)) S := by
  rcases hk with rfl | rfl
  all_goals
    cases t with
    | lf l => cases l <;> simp [fnD, rS, b_rules_is_quiet, isNon, hp, T.parts, T.sg, Lf.sg, for_tup, c_LOUD, inFlat, flatP, T.loud]
    | gap g => cases ht
    | one a => simp [fnD, rS, b_rules_is_quiet, isNon, hp, T.parts, T.sg, for_tup, c_LOUD, inFlat, flatP, T.loud]
    | two o a b =>
      simp [T.parts] at hs
      cases ha : a.loud <;> cases hb : b.loud <;> simp [ha, hb] at hs <;> simp [fnD, rS, b_rules_is_quiet, isNon, hp, T.parts, T.sg, for_tup, c_LOUD, inFlat, flatP, T.loud, r_forL1, hs, *]
    | thr a b c =>
      simp [T.parts] at hs
      cases ha : a.loud <;> cases hb : b.loud <;> cases hc : c.loud <;> simp [ha, hb, hc] at hs <;> simp [fnD, rS, b_rules_is_quiet, isNon, hp, T.parts, T.sg, for_tup, c_LOUD, inFlat, flatP, T.loud, r_forL1, hs, *]
theorem gather_ok (n : Nat) (ht : t.nameless = true) (hs : ∀ u ∈ t.parts, fs [u.enc, .tup [], .ref n] S = .ok .non S) : fnD 3 5 (b_names_gather fs fp wf) [t.enc, .tup [], .ref n] S = .ok .non S := by
  cases t with
  | lf l => cases l <;> simp [fnD, rS, b_names_gather, hp, T.parts, T.sg, Lf.sg, for_tup, T.nameless] at ht ⊢
  | gap g => simp [fnD, rS, b_names_gather, hp, T.parts, T.sg, for_tup]
  | _ =>
    simp [T.parts] at hs
    simp [fnD, rS, b_names_gather, hp, T.parts, T.sg, for_tup, r_forL1, hs]
end
@[simp] theorem get_mid (S G : Sto) (x : MO) : (S ++ x :: G)[S.length]? = some x := by simp
@[simp] theorem set_mid (S G : Sto) (x y : MO) : (S ++ x :: G).set S.length y = S ++ y :: G := by simp [List.set_append]
@[simp] theorem get_mid2 (S G G' : Sto) (x y : MO) : (S ++ x :: (G ++ y :: G'))[S.length + (G.length + 1)]? = some y := by
  rw [List.getElem?_append_right (by omega), show S.length + (G.length + 1) - S.length = G.length + 1 by omega]
  simp
@[simp] theorem get_mid1 (S G' : Sto) (x y : MO) : (S ++ x :: y :: G')[S.length + 1]? = some y := get_mid2 S [] G' x y
def gapE (g : Str) : PV := (T.gap g).enc
@[simp] theorem ix_gapE1 (g : Str) (S : Sto) : fIx (gapE g) (.int 1) S = .ok (.str g) S := by simp [gapE]
@[simp] theorem ix_gapE2 (g : Str) (S : Sto) : fIx (gapE g) (.int 2) S = .ok (.tup []) S := by simp [gapE]
/-- what every_gap leaves behind its list -/
def T.egr : T → List MO
  | .one a => .lst (a.gaps.map gapE) :: a.egr
  | .two _ a b => .lst (a.gaps.map gapE) :: (a.egr ++ .lst (b.gaps.map gapE) :: b.egr)
  | .thr a b c => .lst (a.gaps.map gapE) :: (a.egr ++ .lst (b.gaps.map gapE) :: (b.egr ++ .lst (c.gaps.map gapE) :: c.egr))
  | _ => []
/-- what bound_names leaves -/
def T.bnr : T → List MO
  | .one a => .lst [] :: a.bnr
  | .two _ a b => .lst [] :: (a.bnr ++ .lst [] :: b.bnr)
  | .thr a b c => .lst [] :: (a.bnr ++ .lst [] :: (b.bnr ++ .lst [] :: c.bnr))
  | _ => []
section
variable {fp fs fk : Fn} (wf : Nat) (t : T) (S : Sto) (hp : ∀ (u : T) S, fp [u.enc] S = .ok (.tup (u.parts.map T.enc)) S)
include hp
theorem every_gap_ok (hl : t.gaps.length ≤ 10000) (hs : ∀ u ∈ t.parts, ∀ S, fs [u.enc] S = .ok (.ref S.length) (S ++ .lst (u.gaps.map gapE) :: u.egr)) :
    fnD 1 4 (b_rules_every_gap fs fp wf) [t.enc] S = .ok (.ref S.length) (S ++ .lst (t.gaps.map gapE) :: t.egr) := by
  cases t with
  | lf l => cases l <;> simp [fnD, rS, b_rules_every_gap, hp, T.parts, T.sg, Lf.sg, for_tup, T.gaps, T.egr]
  | gap g => simp [fnD, rS, b_rules_every_gap, hp, T.parts, T.sg, for_tup, T.gaps, T.egr, isLst, lstAt, fAppend, gapE]
  | one a =>
    simp [T.parts] at hs
    simp [T.gaps] at hl
    simp [fnD, rS, b_rules_every_gap, hp, T.parts, T.sg, for_tup, r_forL1, hs, isLst, lstAt, fExtend, T.gaps, T.egr, show a.gaps.length ≤ 16777216 by omega]
  | two o a b =>
    simp [T.parts] at hs
    simp [T.gaps] at hl
    simp [fnD, rS, b_rules_every_gap, hp, T.parts, T.sg, for_tup, r_forL1, hs, isLst, lstAt, fExtend, T.gaps, T.egr, show a.gaps.length ≤ 16777216 by omega, show a.gaps.length + b.gaps.length ≤ 16777216 by omega]
  | thr a b c =>
    simp [T.parts] at hs
    simp [T.gaps] at hl
    simp [fnD, rS, b_rules_every_gap, hp, T.parts, T.sg, for_tup, r_forL1, hs, isLst, lstAt, fExtend, T.gaps, T.egr, show a.gaps.length ≤ 16777216 by omega, show a.gaps.length + b.gaps.length ≤ 16777216 by omega, show a.gaps.length + b.gaps.length + c.gaps.length ≤ 16777216 by omega]
theorem bound_names_ok (hs : ∀ u ∈ t.parts, ∀ S, fs [u.enc] S = .ok (.ref S.length) (S ++ .lst [] :: u.bnr)) :
    fnD 1 3 (b_rules_bound_names fs fp wf) [t.enc] S = .ok (.ref S.length) (S ++ .lst [] :: t.bnr) := by
  cases t with
  | lf l => simp [fnD, rS, b_rules_bound_names, hp, T.parts, for_tup, T.bnr]
  | gap g => simp [fnD, rS, b_rules_bound_names, hp, T.parts, for_tup, T.bnr]
  | _ =>
    simp [T.parts] at hs
    simp [fnD, rS, b_rules_bound_names, hp, T.parts, for_tup, r_forL1, hs, isLst, lstAt, fExtend, T.bnr]
end
end K71
namespace K71
open PySem Dn Pg
open L2 (atI ixN Key)
def RW {α : Type} (r : Res α) (Q : α → Sto → Prop) : Prop := ∃ v S, r = .ok v S ∧ Q v S
def OW (o : Out) (N : En → Sto → Prop) (R : PV → Sto → Prop) : Prop := (∃ en S, o = .next en S ∧ N en S) ∨ ∃ v S, o = .ret v S ∧ R v S
theorem RW.mono {α : Type} {r : Res α} {Q Q' : α → Sto → Prop} (h : RW r Q) (f : ∀ v S, Q v S → Q' v S) : RW r Q' := by
  obtain ⟨v, S, e, q⟩ := h
  exact ⟨v, S, e, f v S q⟩
theorem RW.of {α : Type} {r : Res α} {Q : α → Sto → Prop} {v : α} {S : Sto} (e : r = .ok v S) (q : Q v S) : RW r Q := ⟨v, S, e, q⟩
@[simp] theorem RW.ok {α : Type} {Q : α → Sto → Prop} {v : α} {S : Sto} : RW (.ok v S) Q = Q v S := propext ⟨fun ⟨_, _, e, q⟩ => by cases e; exact q, fun q => ⟨_, _, rfl, q⟩⟩
theorem RW.bind {α β : Type} {r : Res α} {k : α → Sto → Res β} {Q : β → Sto → Prop} (h : RW r fun v S => RW (k v S) Q) : RW (r.bind k) Q := by
  obtain ⟨v, S, e, q⟩ := h
  rw [e]; exact q
section
variable {en : En} {S : Sto} {N : En → Sto → Prop} {R : PV → Sto → Prop} {a b : DS} {e : DE} {t : DT} {i : Nat}
theorem OW.mono {o : Out} {N' : En → Sto → Prop} {R' : PV → Sto → Prop} (h : OW o N R) (f : ∀ en S, N en S → N' en S) (g : ∀ v S, R v S → R' v S) : OW o N' R' := by
  rcases h with ⟨en, S, e, q⟩ | ⟨v, S, e, q⟩
  · exact .inl ⟨en, S, e, f _ _ q⟩
  · exact .inr ⟨v, S, e, g _ _ q⟩
theorem ow_seq (h : OW (a en S) (fun en S => OW (b en S) N R) R) : OW (sSeq a b en S) N R := by
  rcases h with ⟨en, S, e, q⟩ | ⟨v, S, e, q⟩
  · rw [r_sSeq, e]; exact q
  · rw [r_sSeq, e]; exact .inr ⟨v, S, rfl, q⟩
theorem ow_set (h : RW (e en S) fun x S => N (en.set i (some x)) S) : OW (sSet i e en S) N R := by
  obtain ⟨v, S, e, q⟩ := h
  unfold sSet
  rw [r_sAsg, e]
  exact .inl ⟨_, _, rfl, q⟩
theorem ow_expr (h : RW (e en S) fun _ S => N en S) : OW (sExpr e en S) N R := by
  obtain ⟨v, S, e, q⟩ := h
  rw [r_sExpr, e]
  exact .inl ⟨_, _, rfl, q⟩
theorem ow_ret (h : RW (e en S) R) : OW (sRet e en S) N R := by
  obtain ⟨v, S, e, q⟩ := h
  rw [r_sRet, e]
  exact .inr ⟨_, _, rfl, q⟩
theorem ow_if (h : RW (t en S) fun c S => if c = true then OW (a en S) N R else OW (b en S) N R) : OW (sIf t a b en S) N R := by
  obtain ⟨v, S, e, q⟩ := h
  rw [r_sIf, e]
  show OW (if v = true then _ else _) N R
  cases v
  · exact q
  · exact q
@[simp] theorem o_seq : OW (sSeq a b en S) N R = OW (a en S) (fun en S => OW (b en S) N R) R := by
  refine propext ⟨fun h => ?_, ow_seq⟩
  rw [r_sSeq] at h
  cases e : a en S <;> rw [e] at h
  case next en1 S1 => exact .inl ⟨_, _, rfl, h⟩
  case ret v S1 =>
    rcases h with ⟨_, _, e, _⟩ | ⟨v, S2, e, h⟩
    · cases e
    · cases e; exact .inr ⟨_, _, rfl, h⟩
  all_goals
    rcases h with ⟨_, _, e, _⟩ | ⟨v, S2, e, h⟩
    · cases e
    · cases e
@[simp] theorem r_bindW {α β : Type} {r : Res α} {k : α → Sto → Res β} {Q : β → Sto → Prop} : RW (r.bind k) Q = RW r fun v S => RW (k v S) Q := by
  refine propext ⟨fun h => ?_, RW.bind⟩
  cases e : r <;> rw [e] at h
  case ok v S => exact ⟨_, _, rfl, h⟩
  all_goals
    obtain ⟨_, _, e, _⟩ := h
    cases e
@[simp] theorem o_next : OW (.next en S) N R = N en S := by
  refine propext ⟨fun h => ?_, fun h => .inl ⟨_, _, rfl, h⟩⟩
  rcases h with ⟨_, _, e, h⟩ | ⟨_, _, e, _⟩
  · cases e; exact h
  · cases e
@[simp] theorem o_retv {v : PV} : OW (.ret v S) N R = R v S := by
  refine propext ⟨fun h => ?_, fun h => .inr ⟨_, _, rfl, h⟩⟩
  rcases h with ⟨_, _, e, h⟩ | ⟨_, _, e, h⟩
  · cases e
  · cases e; exact h
theorem o_out {α : Type} {r : Res α} {k : α → Sto → Out} : OW (r.out en k) N R = RW r fun v S => OW (k v S) N R := by
  refine propext ⟨fun h => ?_, fun ⟨v, S, e, q⟩ => by rw [e]; exact q⟩
  cases e : r <;> rw [e] at h
  case ok v S => exact ⟨_, _, rfl, h⟩
  all_goals
    rcases h with ⟨_, _, e, _⟩ | ⟨_, _, e, _⟩
    · cases e
    · cases e
@[simp] theorem o_nil : OW (sNil en S) N R = N en S := o_next
@[simp] theorem o_set : OW (sSet i e en S) N R = RW (e en S) fun x S => N (en.set i (some x)) S := by
  unfold sSet sAsg
  rw [o_out]
  congr
  funext x S
  exact o_next
@[simp] theorem o_expr : OW (sExpr e en S) N R = RW (e en S) fun _ S => N en S := by
  unfold sExpr
  rw [o_out]
  congr
  funext x S
  exact o_next
@[simp] theorem o_ret : OW (sRet e en S) N R = RW (e en S) R := by
  unfold sRet
  rw [o_out]
  congr
  funext x S
  exact o_retv
@[simp] theorem o_if : OW (sIf t a b en S) N R = RW (t en S) fun c S => if c = true then OW (a en S) N R else OW (b en S) N R := by
  unfold sIf
  rw [o_out]
  congr
  funext x S
  cases x <;> rfl
/-- a test that is told, no way taken -/
theorem ow_ifN (h : RW (t en S) fun c S => c = false ∧ OW (b en S) N R) : OW (sIf t a b en S) N R := ow_if (h.mono fun c S ⟨e, q⟩ => by subst e; exact q)
theorem ow_ifY (h : RW (t en S) fun c S => c = true ∧ OW (a en S) N R) : OW (sIf t a b en S) N R := ow_if (h.mono fun c S ⟨e, q⟩ => by subst e; exact q)
theorem ow_nil (h : N en S) : OW (sNil en S) N R := .inl ⟨_, _, rfl, h⟩
theorem ow_for {p : DP} {g : Tg} {S1 : Sto} {P0 : Prv} (xs : List PV) (P : Nat → En → Sto → Prop) (hp : p en S = .ok P0 S1) (hn : P0.n = xs.length) (h0 : P 0 en S1)
    (hit : ∀ i en S, i ≤ xs.length → P i en S → P0.it i S = some xs[i]?)
    (hst : ∀ i x en S, xs[i]? = some x → P i en S → ∃ en1, g.f x en = some en1 ∧ OW (b en1 S) (P (i + 1)) R)
    (h : ∀ en S, P xs.length en S → N en S) : OW (sFor p g b en S) N R := by
  rw [r_sForT, hp]
  show OW (forRun P0.it g b (P0.n + 1) 0 en S1) N R
  rw [hn]
  rcases forRun_inv P0.it g b xs P (fun _ => R) hit (fun i x en S e hP => by
    obtain ⟨en1, h1, h2⟩ := hst i x en S e hP
    exact ⟨en1, h1, h2⟩) xs.length 0 en S1 (by omega) h0 with ⟨en', S', e, q⟩ | ⟨_, v, S', _, e, q⟩
  · exact .inl ⟨_, _, e, h _ _ q⟩
  · exact .inr ⟨_, _, e, q⟩
theorem rw_fn {np nl : Nat} {xs : List PV} (hl : xs.length = np) (h : OW (a (xs.map some ++ List.replicate (nl - xs.length) none) S) (fun _ S => R .non S) R) : RW (fnD np nl a xs S) R := by
  unfold fnD
  rw [if_pos hl]
  rcases h with ⟨en, S, e, q⟩ | ⟨v, S, e, q⟩
  · rw [e]; exact ⟨_, _, rfl, q⟩
  · rw [e]; exact ⟨_, _, rfl, q⟩
end
def ddI (acc gs : List Str) : List Str := gs.foldl (fun acc g => if g ∈ acc then acc else acc ++ [g]) acc
def dd (gs : List Str) : List Str := ddI [] gs
theorem ddI_app (acc gs hs : List Str) : ddI acc (gs ++ hs) = ddI (ddI acc gs) hs := List.foldl_append
theorem dd_app (gs hs : List Str) : dd (gs ++ hs) = ddI (dd gs) hs := ddI_app [] gs hs
theorem ddI_one (acc : List Str) (g : Str) : ddI acc [g] = if g ∈ acc then acc else acc ++ [g] := rfl
theorem mem_ddI : ∀ {gs acc : List Str} {g : Str}, g ∈ ddI acc gs ↔ g ∈ acc ∨ g ∈ gs
  | [], acc, g => by simp [ddI]
  | h :: gs, acc, g => by
    show g ∈ ddI (if h ∈ acc then acc else acc ++ [h]) gs ↔ _
    rw [mem_ddI]
    by_cases q : h ∈ acc
    · rw [if_pos q, List.mem_cons]
      exact ⟨fun r => r.elim .inl fun r => .inr (.inr r), fun r => r.elim .inl fun r => r.elim (fun e => .inl (e ▸ q)) .inr⟩
    · rw [if_neg q]
      simp [or_assoc]
theorem mem_dd {gs : List Str} {g : Str} : g ∈ dd gs ↔ g ∈ gs := by simp [dd, mem_ddI]
theorem ddI_nodup : ∀ {gs acc : List Str}, acc.Nodup → (ddI acc gs).Nodup
  | [], acc, h => h
  | g :: gs, acc, h => by
    show (ddI (if g ∈ acc then acc else acc ++ [g]) gs).Nodup
    apply ddI_nodup
    by_cases q : g ∈ acc
    · rw [if_pos q]; exact h
    · rw [if_neg q]
      rw [List.nodup_append]
      exact ⟨h, by simp, fun a ha b hb e => by simp at hb; subst hb; exact q (e ▸ ha)⟩
theorem dd_nodup (gs : List Str) : (dd gs).Nodup := ddI_nodup List.nodup_nil
theorem ddI_len : ∀ (gs acc : List Str), (ddI acc gs).length ≤ acc.length + gs.length
  | [], acc => Nat.le_refl _
  | g :: gs, acc => by
    show (ddI (if g ∈ acc then acc else acc ++ [g]) gs).length ≤ _
    refine Nat.le_trans (ddI_len gs _) ?_
    split <;> simp <;> omega
theorem dd_len (gs : List Str) : (dd gs).length ≤ gs.length := by have h := ddI_len gs []; rw [List.length_nil, Nat.zero_add] at h; exact h
/-- the dict of marks with what v tells -/
def dc (v : Str → PV) (gs : List Str) : List (Key × PV) := gs.map fun g => (.inr g, v g)
theorem dGet_dc (v : Str → PV) (g : Str) : ∀ gs : List Str, dGet (dc v gs) (.inr g) = if g ∈ gs then some (v g) else none
  | [] => rfl
  | h :: gs => by
    have ih := dGet_dc v g gs
    unfold dGet dc at ih ⊢
    rw [List.map_cons, List.find?_cons]
    by_cases e : h = g
    · subst e; simp
    · have e' : ¬ g = h := fun q => e q.symm
      simp only [Sum.inr.injEq, e, decide_false]
      rw [ih]
      simp [e']
theorem dc_any (v : Str → PV) (g : Str) (gs : List Str) : ((dc v gs).any fun p => decide (p.1 = (.inr g : Key))) = decide (g ∈ gs) := by
  unfold dc
  rw [List.any_map]
  induction gs with
  | nil => rfl
  | cons h gs ih =>
    rw [List.any_cons, ih]
    by_cases e : h = g
    · subst e; simp
    · have e' : ¬ g = h := fun q => e q.symm
      simp [e, e']
theorem dPut_dc (v : Str → PV) (g : Str) (gs : List Str) (h : g ∉ gs) : dPut (dc v gs) (.inr g) (v g) = dc v (gs ++ [g]) := by
  unfold dPut
  rw [dc_any, if_neg (by simpa using h)]
  simp [dc]
theorem dc_len (v : Str → PV) (gs : List Str) : (dc v gs).length = gs.length := by simp [dc]
def zero : Str → PV := fun _ => .int 0
@[simp] theorem v_len_tup (ys : List PV) (S : Sto) : fLen [.tup ys] S = .ok (.int ys.length) S := rfl
theorem set_same {S : Sto} {n : Nat} {x : MO} (h : S[n]? = some x) : S.set n x = S := by
  apply List.ext_getElem?
  intro i
  rw [List.getElem?_set]
  split
  · rename_i e
    subst e
    split
    · exact h.symm
    · rename_i q
      rw [List.getElem?_eq_none_iff.mpr (by omega)]
  · rfl
theorem setd_dc (n : Nat) (S : Sto) (v : Str → PV) (gs : List Str) (g : Str) (h : S[n]? = some (.dic (dc v gs))) (hl : gs.length < 10000) :
    ∃ z, fSetd (.ref n) (.str g) (v g) S = .ok z (S.set n (.dic (dc v (ddI gs [g])))) := by
  unfold fSetd
  simp only [h, pvKey, dc_len]
  rw [if_pos (show gs.length < sizeLine by simp; omega), dGet_dc, ddI_one]
  by_cases q : g ∈ gs
  · simp only [if_pos q]
    exact ⟨v g, by rw [set_same h]⟩
  · simp only [if_neg q]
    rw [dPut_dc v g gs q]
    exact ⟨_, rfl⟩
theorem lc_nil (m : DP) (g : Tg) (tt : DT) (te : DE) (en : En) (S : Sto) (h : m en S = .ok (fTupP []) S) : eLc m g tt te en S = .ok (.ref S.length) (S ++ [.lst []]) := by
  simp [eLc, h, lcRun, fTupP]
theorem fLst_it (n : Nat) (xs : List PV) (i : Nat) (S : Sto) (h : S[n]? = some (.lst xs)) : (fLstP n xs.length).it i S = some xs[i]? := by
  simp [fLstP, lstAt, h]
theorem v_iter_lst (n : Nat) (xs : List PV) (S : Sto) (h : S[n]? = some (.lst xs)) : fIter (.ref n) S = .ok (fLstP n xs.length) S := by
  simp [fIter, h]
theorem get?_map_gap {gs : List Str} {i : Nat} {x : PV} (h : (gs.map gapE)[i]? = some x) : ∃ g, gs[i]? = some g ∧ x = gapE g := by
  rw [List.getElem?_map] at h
  cases q : gs[i]? with
  | none => rw [q] at h; cases h
  | some g => rw [q] at h; exact ⟨g, rfl, (Option.some.inj h).symm⟩
theorem take_one {α : Type} {l : List α} {i : Nat} {x : α} (h : l[i]? = some x) : l.take (i + 1) = l.take i ++ [x] := by
  rw [List.take_add_one, h]; rfl
section
variable {fp fs fk fe fg fb fa fl fr fi fo fq : Fn} (wf : Nat) (t : T) (S : Sto)
theorem gaps_of_ok (hl : t.gaps.length ≤ 5000) (he : ∀ S, fe [t.enc] S = .ok (.ref S.length) (S ++ .lst (t.gaps.map gapE) :: t.egr)) :
    RW (fnD 1 3 (b_rules_gaps_of fe wf) [t.enc] S) fun v S' => v = .ref S.length ∧ S <+: S' ∧ S'[S.length]? = some (.dic (dc zero (dd t.gaps))) := by
  refine rw_fn rfl ?_
  simp [b_rules_gaps_of]
  refine ow_for (t.gaps.map gapE) (fun i en S' => (∃ z, en = [some t.enc, some (.ref S.length), z]) ∧ S' = S ++ .dic (dc zero (dd (t.gaps.take i))) :: .lst (t.gaps.map gapE) :: t.egr) (P0 := fLstP (S.length + 1) (t.gaps.map gapE).length) (S1 := S ++ .dic [] :: .lst (t.gaps.map gapE) :: t.egr) ?_ rfl ⟨⟨_, rfl⟩, rfl⟩ ?_ ?_ ?_
  · simp [he]
    rw [v_iter_lst _ (t.gaps.map gapE) _ (by simp)]
    simp
  · rintro i en S' _ ⟨_, rfl⟩
    exact fLst_it _ _ _ _ (by simp)
  · rintro i x en S' hx ⟨⟨z, rfl⟩, rfl⟩
    obtain ⟨g, hg, rfl⟩ := get?_map_gap hx
    obtain ⟨u, hu⟩ := setd_dc S.length (S ++ .dic (dc zero (dd (t.gaps.take i))) :: .lst (t.gaps.map gapE) :: t.egr) zero _ g (get_mid _ _ _) (by
      have h1 := dd_len (t.gaps.take i)
      rw [List.length_take] at h1
      omega)
    refine ⟨_, r_gN .., ?_⟩
    simp [isDic]
    rw [show PV.int 0 = zero g from rfl, hu, take_one hg, dd_app]
    simp
  · rintro en S' ⟨⟨z, rfl⟩, rfl⟩
    simp
theorem binds_twice_ok (hb : fb [t.enc] S = .ok (.ref S.length) (S ++ .lst [] :: t.bnr)) : RW (fnD 1 2 (b_rules_binds_twice fb wf) [t.enc] S) fun v S' => v = .bl false ∧ S <+: S' := by
  refine rw_fn rfl ?_
  simp [b_rules_binds_twice, hb, fLenSet, strsOf, fLen, fLt]
theorem free_names_ok (hg : fg [t.enc, .tup [], .ref S.length] (S ++ [.dic []]) = .ok .non (S ++ [.dic []])) : fnD 1 2 (b_names_free_names fg wf) [t.enc] S = .ok (.ref (S.length + 1)) (S ++ [.dic [], .lst []]) := by
  simp [fnD, rS, b_names_free_names, hg, fSorted, keysOf, sortStrs]
theorem left_told_ok (he : ∀ S, fe [t.enc] S = .ok (.ref S.length) (S ++ .lst (t.gaps.map gapE) :: t.egr))
    (hg : ∀ S, RW (fg [t.enc] S) fun v S' => v = .ref S.length ∧ S <+: S' ∧ S'[S.length]? = some (.dic (dc zero (dd t.gaps)))) :
    RW (fnD 1 5 (b_rules_left_told fe fg wf) [t.enc] S) fun v S' => v = .bl true ∧ S <+: S' := by
  refine rw_fn rfl ?_
  simp [b_rules_left_told]
  refine (hg S).mono ?_
  rintro _ S1 ⟨rfl, h1, h2⟩
  refine ow_for (t.gaps.map gapE) (fun i en S' => (∃ z1 z2 z3, en = [some t.enc, some (.ref S.length), z1, z2, z3]) ∧ S1 ++ .lst (t.gaps.map gapE) :: t.egr <+: S') (P0 := fLstP S1.length (t.gaps.map gapE).length) (S1 := S1 ++ .lst (t.gaps.map gapE) :: t.egr) ?_ rfl ⟨⟨_, _, _, rfl⟩, List.prefix_rfl⟩ ?_ ?_ ?_
  · simp [he]
    rw [v_iter_lst _ (t.gaps.map gapE) _ (by simp)]
    simp
  · rintro i en S' _ ⟨_, hS⟩
    exact fLst_it _ _ _ _ (pre_get hS (by simp))
  · rintro i x en S' hx ⟨⟨z1, z2, z3, rfl⟩, hS⟩
    obtain ⟨g, hgg, rfl⟩ := get?_map_gap hx
    refine ⟨_, r_gN .., ?_⟩
    have e : (S' ++ [MO.lst []])[S.length]? = some (.dic (dc zero (dd t.gaps))) := pre_get ((((List.prefix_append _ _).trans hS).trans (List.prefix_append _ _))) h2
    have em : g ∈ t.gaps := List.mem_of_getElem? hgg
    simp
    rw [lc_nil _ _ _ _ _ _ (by simp)]
    simp [fLenSet, strsOf, fLt]
    simp only [fIx, e, pvKey, dGet_dc, mem_dd, em, if_true, v_opt_some, r_bind_ok]
    simp [zero]
    exact hS.trans (List.prefix_append _ _)
  · rintro en S' ⟨⟨z1, z2, z3, rfl⟩, hS⟩
    exact h1.trans ((List.prefix_append _ _).trans hS)
theorem right_told_ok (n : Nat) (k : PV) (gs : List Str) (hn : S[n]? = some (.dic (dc zero gs))) (he : ∀ S, fe [t.enc] S = .ok (.ref S.length) (S ++ .lst (t.gaps.map gapE) :: t.egr)) :
    RW (fnD 3 5 (b_rules_right_told fe fk wf) [t.enc, .ref n, k] S) fun v S' => v = .bl true ∧ S <+: S' := by
  refine rw_fn rfl ?_
  simp [b_rules_right_told]
  refine ow_for (t.gaps.map gapE) (fun i en S' => (∃ z1 z2, en = [some t.enc, some (.ref n), some k, z1, z2]) ∧ S ++ .lst (t.gaps.map gapE) :: t.egr <+: S') (P0 := fLstP S.length (t.gaps.map gapE).length) (S1 := S ++ .lst (t.gaps.map gapE) :: t.egr) ?_ rfl ⟨⟨_, _, rfl⟩, List.prefix_rfl⟩ ?_ ?_ ?_
  · simp [he]
    rw [v_iter_lst _ (t.gaps.map gapE) _ (by simp)]
    simp
  · rintro i en S' _ ⟨_, hS⟩
    exact fLst_it _ _ _ _ (pre_get hS (by simp))
  · rintro i x en S' hx ⟨⟨z1, z2, rfl⟩, hS⟩
    obtain ⟨g, hgg, rfl⟩ := get?_map_gap hx
    have e : S'[n]? = some (.dic (dc zero gs)) := pre_get ((List.prefix_append _ _).trans hS) hn
    refine ⟨_, r_gN .., ?_⟩
    have ez : ((dGet (dc zero gs) (Sum.inr g)).getD (PV.int 0)) = .int 0 := by rw [dGet_dc]; split <;> rfl
    simp [isDic, e, fGet2, pvKey, ez]
    refine ow_for [] (fun _ en S'' => en = [some t.enc, some (.ref n), some k, some (gapE g), z2] ∧ S'' = S') (P0 := fTupP []) (S1 := S') (by simp) rfl ⟨rfl, rfl⟩ ?_ ?_ ?_
    · rintro i en S'' hi _; simp [fTupP]
    · rintro i x en S'' hx; simp at hx
    · rintro en S'' ⟨rfl, rfl⟩
      exact ⟨⟨_, _, rfl⟩, hS⟩
  · rintro en S' ⟨⟨z1, z2, rfl⟩, hS⟩
    exact (List.prefix_append _ _).trans hS
/-- a kind: its gap, number or quiet -/
def kindE (k : Str × Str) : PV := .tup [.str k.1, .str k.2]
theorem kinds_told_ok (n : Nat) (ks : List (Str × Str)) (gs : List Str) (hn : S[n]? = some (.dic (dc zero gs))) (hk : ∀ k ∈ ks, k.1 ∈ gs) :
    RW (fnD 2 4 (b_rules_kinds_told wf) [.tup (ks.map kindE), .ref n] S) fun v S' => v = .bl true ∧ S' = S := by
  refine rw_fn rfl ?_
  simp [b_rules_kinds_told]
  refine ow_for (ks.map kindE) (fun i en S' => (∃ z1 z2, en = [some (.tup (ks.map kindE)), some (.ref n), z1, z2]) ∧ S' = S) (P0 := fTupP (ks.map kindE)) (S1 := S) (by simp) rfl ⟨⟨_, _, rfl⟩, rfl⟩ ?_ ?_ ?_
  · rintro i en S' _ _; simp [fTupP]
  · rintro i x en S' hx ⟨⟨z1, z2, rfl⟩, rfl⟩
    rw [List.getElem?_map] at hx
    cases q : ks[i]? with
    | none => rw [q] at hx; cases hx
    | some k =>
      rw [q] at hx
      cases hx
      have em : k.1 ∈ gs := hk k (List.mem_of_getElem? q)
      refine ⟨_, by simp [kindE]; rfl, ?_⟩
      have ez : dGet (dc zero gs) (Sum.inr k.1) = some (.int 0) := by rw [dGet_dc, if_pos em]; rfl
      by_cases c : k.2 = Str.ofString "number"
      · simp [fNotIn, fIn, hn, pvKey, ez, fIx, rNot, c, fGt]
      · simp [fNotIn, fIn, hn, pvKey, ez, fIx, rNot, c, fGt]
  · rintro en S' ⟨⟨z1, z2, rfl⟩, rfl⟩
    simp
theorem ne_nil_nil (S : Sto) (i j : Nat) (e1 : S[i]? = some (.lst [])) (e2 : S[j]? = some (.lst [])) : fNe (.ref i) (.ref j) S = .ok false S := by
  simp [fNe, fEq, fEqD, data, e1, e2, optAll, SeqAt.shaped, PyData.canLay0, PyData.canLayAll0, PyData.eqv, PyData.eqvAll, PyData.depth, PyData.depthAll, rNot]
theorem why_none_ok (l r : T) (ks : List (Str × Str)) (hpl : l.parts ≠ []) (hll : l.gaps.length ≤ 5000) (hrl : r.gaps.length ≤ 5000) (hnl : l.nameless = true) (hnr : r.nameless = true)
    (hdl : l.deep ≤ 20) (hdr : r.deep ≤ 20) (hsub : ∀ g ∈ r.gaps, g ∈ l.gaps) (hks : ∀ k ∈ ks, k.1 ∈ l.gaps) (hlo : r.loud = true → l.loud = true)
    (hp : ∀ (u : T) S, fp [u.enc] S = .ok (.tup (u.parts.map T.enc)) S)
    (hg : ∀ (u : T) S, u.deep ≤ 20 → u.gaps.length ≤ 5000 → RW (fg [u.enc] S) fun v S' => v = .ref S.length ∧ S <+: S' ∧ S'[S.length]? = some (.dic (dc zero (dd u.gaps))))
    (hb : ∀ (u : T) S, u.deep ≤ 20 → RW (fb [u.enc] S) fun v S' => v = .bl false ∧ S <+: S')
    (hf : ∀ (u : T) S, u.deep ≤ 20 → u.nameless = true → fa [u.enc] S = .ok (.ref (S.length + 1)) (S ++ [.dic [], .lst []]))
    (hl : ∀ (u : T) S, u.deep ≤ 20 → u.gaps.length ≤ 5000 → RW (fl [u.enc] S) fun v S' => v = .bl true ∧ S <+: S')
    (hr : ∀ (u : T) S n k gs, u.deep ≤ 20 → u.gaps.length ≤ 5000 → S[n]? = some (.dic (dc zero gs)) → RW (fr [u.enc, .ref n, k] S) fun v S' => v = .bl true ∧ S <+: S')
    (hk : ∀ S n (ks : List (Str × Str)) gs, S[n]? = some (.dic (dc zero gs)) → (∀ k ∈ ks, k.1 ∈ gs) → RW (fk [.tup (ks.map kindE), .ref n] S) fun v S' => v = .bl true ∧ S' = S)
    (ho : ∀ (u : T) S, u.deep ≤ 20 → fo [u.enc] S = .ok (.bl u.loud) S) :
    RW (fnD 3 5 (b_rules_why_none fa fb fg fo fk fl fr fp wf) [l.enc, r.enc, .tup (ks.map kindE)] S) fun v S' => v = .str "" ∧ S <+: S' := by
  refine rw_fn rfl ?_
  simp [b_rules_why_none]
  refine (hg l S hdl hll).mono ?_
  rintro _ S1 ⟨rfl, h1, h2⟩
  simp [hp, hpl]
  refine (hb l S1 hdl).mono ?_
  rintro _ S2 ⟨rfl, h3⟩
  simp
  refine (hb r S2 hdr).mono ?_
  rintro _ S3 ⟨rfl, h4⟩
  have e1 := ne_nil_nil (S3 ++ [.dic [], .lst []] ++ [.lst []]) (S3.length + 1) (S3.length + 2) (by simp) (by simp)
  have e2 := ne_nil_nil (S3 ++ [.dic [], .lst []] ++ [.lst []] ++ [.dic [], .lst []] ++ [.lst []]) (S3.length + 4) (S3.length + 5) (by simp) (by simp)
  simp at e1 e2
  simp [hf l _ hdl hnl, hf r _ hdr hnr, e1, e2]
  refine (hl l _ hdl hll).mono ?_
  rintro _ S4 ⟨rfl, h5⟩
  simp
  have p4 : S1 <+: S4 := h3.trans (h4.trans ((List.prefix_append _ _).trans h5))
  refine (hr r _ _ _ _ hdr hrl (pre_get p4 h2)).mono ?_
  rintro _ S5 ⟨rfl, h6⟩
  simp
  obtain ⟨_, S6, h7, rfl, h8, h9⟩ := hg r S5 hdr hrl
  have p5 : S1 <+: S5 := p4.trans h6
  have d5 := pre_get p5 h2
  have i5 := (List.getElem?_eq_some_iff.mp d5).1
  have d6 : (S6.set S5.length (.fdic (dc zero (dd r.gaps))))[S.length]? = some (.dic (dc zero (dd l.gaps))) := by
    rw [List.getElem?_set_ne (by omega)]
    exact pre_get h8 d5
  have p6 : S <+: S6.set S5.length (.fdic (dc zero (dd r.gaps))) := by
    obtain ⟨G, rfl⟩ := h8
    rw [List.set_append]
    simp
    exact (h1.trans p5).trans (List.prefix_append _ _)
  refine ow_for ((dd r.gaps).map .str) (fun i en S' => (∃ z, en = [some l.enc, some r.enc, some (.tup (ks.map kindE)), some (.ref S.length), z]) ∧ S' = S6.set S5.length (.fdic (dc zero (dd r.gaps)))) (P0 := fTupP ((dd r.gaps).map .str)) ?_ rfl ⟨⟨_, rfl⟩, rfl⟩ ?_ ?_ ?_
  · simp [h7, fIter, h9]
    simp [dc, keyPV, Function.comp_def]
  · rintro i en S' _ _; simp [fTupP]
  · rintro i x en S' hx ⟨⟨z, rfl⟩, rfl⟩
    rw [List.getElem?_map] at hx
    cases q : (dd r.gaps)[i]? with
    | none => rw [q] at hx; cases hx
    | some g =>
      rw [q] at hx
      cases hx
      have em : g ∈ dd l.gaps := mem_dd.mpr (hsub g (mem_dd.mp (List.mem_of_getElem? q)))
      refine ⟨_, r_gN .., ?_⟩
      simp [fNotIn, fIn, d6, pvKey, dGet_dc, em, rNot]
  · rintro en S' ⟨⟨z, rfl⟩, rfl⟩
    simp
    refine (hk _ _ ks _ d6 fun k hk => mem_dd.mpr (hks k hk)).mono ?_
    rintro _ S7 ⟨rfl, rfl⟩
    simp [ho l _ hdl, ho r _ hdr]
    cases hrl : r.loud with
    | true => simp [hlo hrl]; exact p6
    | false => simp; exact p6
theorem form_ok (l r k : PV) (h : RW (fo [l, r, k] S) fun v S' => v = .str "" ∧ S <+: S') : RW (fnD 1 2 (b_rules_form fo wf) [.tup [l, r, k]] S) fun v S' => v = .non ∧ S <+: S' := by
  refine rw_fn rfl ?_
  simp [b_rules_form]
  refine h.mono ?_
  rintro _ S1 ⟨rfl, h1⟩
  simp
  exact h1
end
end K71
namespace K71
open PySem Dn Pg
open L2 (atI ixN Key)
def Lf.dat : Lf → PyData
  | .num n => .int n | .name x => .str x | .ask x => .str x | .stop x => .str x
def T.dat : T → PyData
  | .lf l => .tuple [.str l.sg.str, l.dat]
  | .gap g => .tuple [.str Sg.gap.str, .str g, .tuple []]
  | .one a => .tuple [.str Sg.say.str, a.dat]
  | .two o a b => .tuple [.str o.sg.str, a.dat, b.dat]
  | .thr a b c => .tuple [.str Sg.ifc.str, a.dat, b.dat, c.dat]
def Lf.fine : Lf → Bool
  | .num _ => true | .name x => PyData.strOk x | .ask x => PyData.strOk x | .stop x => PyData.strOk x
def T.fine : T → Bool
  | .lf l => l.fine
  | .gap g => PyData.strOk g
  | .one a => a.fine
  | .two _ a b => a.fine && b.fine
  | .thr a b c => a.fine && (b.fine && c.fine)
@[simp] theorem Sg.fine (a : Sg) : PyData.strOk a.str = true := by
  have h : ∀ a ∈ Sg.all, PyData.strOk a.str = true := by decide +kernel
  exact h a a.mem_all
theorem data_enc (S : Sto) : ∀ (t : T) (n : Nat), t.deep + 1 ≤ n → data S n t.enc = some t.dat
  | .lf l, n, h => by
    obtain ⟨m, rfl⟩ : ∃ m, n = m + 1 := ⟨n - 1, by simp [T.deep] at h; omega⟩
    cases l <;> simp [data, T.enc, T.dat, optAll, Lf.val, Lf.dat]
  | .gap g, n, h => by
    obtain ⟨m, rfl⟩ : ∃ m, n = m + 2 := ⟨n - 2, by simp [T.deep] at h; omega⟩
    simp [data, T.enc, T.dat, optAll]
  | .one a, n, h => by
    simp [T.deep] at h
    obtain ⟨m, rfl⟩ : ∃ m, n = m + 1 := ⟨n - 1, by omega⟩
    simp [data, T.enc, T.dat, optAll, data_enc S a m (by omega)]
  | .two o a b, n, h => by
    simp [T.deep] at h
    obtain ⟨m, rfl⟩ : ∃ m, n = m + 1 := ⟨n - 1, by omega⟩
    simp [data, T.enc, T.dat, optAll, data_enc S a m (by omega), data_enc S b m (by omega)]
  | .thr a b c, n, h => by
    simp [T.deep] at h
    obtain ⟨m, rfl⟩ : ∃ m, n = m + 1 := ⟨n - 1, by omega⟩
    simp [data, T.enc, T.dat, optAll, data_enc S a m (by omega), data_enc S b m (by omega), data_enc S c m (by omega)]
theorem lay_dat : ∀ t : T, t.fine = true → t.dat.canLay0 = true
  | .lf l, h => by cases l <;> simp [T.fine, Lf.fine] at h <;> simp [T.dat, Lf.dat, PyData.canLay0, PyData.canLayAll0, h]
  | .gap g, h => by simp [T.fine] at h; simp [T.dat, PyData.canLay0, PyData.canLayAll0, h]
  | .one a, h => by simp [T.fine] at h; simp [T.dat, PyData.canLay0, PyData.canLayAll0, lay_dat a h]
  | .two o a b, h => by simp [T.fine] at h; simp [T.dat, PyData.canLay0, PyData.canLayAll0, lay_dat a h.1, lay_dat b h.2]
  | .thr a b c, h => by simp [T.fine] at h; simp [T.dat, PyData.canLay0, PyData.canLayAll0, lay_dat a h.1, lay_dat b h.2.1, lay_dat c h.2.2]
theorem deep_dat : ∀ t : T, t.dat.depth ≤ t.deep + 1
  | .lf l => by cases l <;> simp [T.dat, Lf.dat, T.deep, PyData.depth, PyData.depthAll]
  | .gap g => by simp [T.dat, T.deep, PyData.depth, PyData.depthAll]
  | .one a => by have := deep_dat a; simp [T.dat, T.deep, PyData.depth, PyData.depthAll]; omega
  | .two o a b => by have := deep_dat a; have := deep_dat b; simp [T.dat, T.deep, PyData.depth, PyData.depthAll]; omega
  | .thr a b c => by have := deep_dat a; have := deep_dat b; have := deep_dat c; simp [T.dat, T.deep, PyData.depth, PyData.depthAll]; omega
theorem q_tup (xs ys : List PyData) : PyData.eqv (.tuple xs) (.tuple ys) = PyData.eqvAll xs ys := by unfold PyData.eqv; rfl
theorem q_str (a b : Str) : PyData.eqv (.str a) (.str b) = decide (a = b) := by unfold PyData.eqv; exact Bool.beq_eq_decide_eq a b
theorem q_int (a b : Int) : PyData.eqv (.int a) (.int b) = decide (a = b) := by unfold PyData.eqv; exact Bool.beq_eq_decide_eq a b
theorem q_nil : PyData.eqvAll [] [] = true := by unfold PyData.eqvAll; rfl
theorem q_cons (x y : PyData) (xs ys : List PyData) : PyData.eqvAll (x :: xs) (y :: ys) = (PyData.eqv x y && PyData.eqvAll xs ys) := by conv => lhs; unfold PyData.eqvAll
theorem q_nc (y : PyData) (ys : List PyData) : PyData.eqvAll [] (y :: ys) = false := by unfold PyData.eqvAll; rfl
theorem q_cn (y : PyData) (ys : List PyData) : PyData.eqvAll (y :: ys) [] = false := by unfold PyData.eqvAll; rfl
theorem eqv_dat : ∀ t u : T, PyData.eqv t.dat u.dat = decide (t = u) := by
  intro t
  induction t with
  | lf l => intro u; cases u with
    | lf l2 => cases l <;> cases l2 <;> simp [T.dat, Lf.dat, Lf.sg, q_tup, q_str, q_int, q_nil, q_cons, q_nc, q_cn]
    | _ => cases l <;> simp [T.dat, Lf.dat, Lf.sg, q_tup, q_str, q_int, q_nil, q_cons, q_nc, q_cn]
  | gap g => intro u; cases u with
    | lf l2 => cases l2 <;> simp [T.dat, Lf.dat, Lf.sg, q_tup, q_str, q_int, q_nil, q_cons, q_nc, q_cn]
    | _ => simp [T.dat, Lf.dat, Lf.sg, q_tup, q_str, q_int, q_nil, q_cons, q_nc, q_cn]
  | one a ih => intro u; cases u with
    | lf l2 => cases l2 <;> simp [T.dat, Lf.dat, Lf.sg, q_tup, q_str, q_int, q_nil, q_cons, q_nc, q_cn]
    | _ => simp [T.dat, Lf.dat, Lf.sg, q_tup, q_str, q_int, q_nil, q_cons, q_nc, q_cn, ih]
  | two o a b iha ihb => intro u; cases u with
    | lf l2 => cases l2 <;> simp [T.dat, Lf.dat, Lf.sg, q_tup, q_str, q_int, q_nil, q_cons, q_nc, q_cn]
    | _ => simp [T.dat, Lf.dat, Lf.sg, q_tup, q_str, q_int, q_nil, q_cons, q_nc, q_cn, iha, ihb]
  | thr a b c iha ihb ihc => intro u; cases u with
    | lf l2 => cases l2 <;> simp [T.dat, Lf.dat, Lf.sg, q_tup, q_str, q_int, q_nil, q_cons, q_nc, q_cn]
    | _ => simp [T.dat, Lf.dat, Lf.sg, q_tup, q_str, q_int, q_nil, q_cons, q_nc, q_cn, iha, ihb, ihc]
theorem eqvAll_dat : ∀ ts us : List T, PyData.eqvAll (ts.map T.dat) (us.map T.dat) = decide (ts = us)
  | [], [] => by simp [PyData.eqvAll]
  | [], _ :: _ => by simp [PyData.eqvAll]
  | _ :: _, [] => by simp [PyData.eqvAll]
  | t :: ts, u :: us => by simp [q_cons, eqv_dat, eqvAll_dat ts us]
/-- may be compared -/
def T.ok (t : T) : Prop := t.fine = true ∧ t.deep ≤ 20
theorem optAll_map {α β : Type} (f : α → Option β) (g : α → β) : ∀ (l : List α), (∀ x ∈ l, f x = some (g x)) → optAll (l.map f) = some (l.map g)
  | [], _ => rfl
  | x :: l, h => by
    simp only [List.map_cons, h x List.mem_cons_self, optAll, optAll_map f g l fun y hy => h y (List.mem_cons_of_mem _ hy)]
    rfl
theorem data_row (S : Sto) (n a : Nat) (ts : List T) (hn : 23 ≤ n) (h : S[a]? = some (.lst (ts.map T.enc))) (ho : ∀ t ∈ ts, t.ok) : data S n (.ref a) = some (.list (ts.map T.dat)) := by
  obtain ⟨m, rfl⟩ : ∃ m, n = m + 1 := ⟨n - 1, by omega⟩
  unfold data
  simp only [h]
  rw [List.map_map, optAll_map (data S m ∘ T.enc) T.dat ts fun t ht => data_enc S t m (by have := (ho t ht).2; omega)]
  rfl
theorem lay_row (ts : List T) (ho : ∀ t ∈ ts, t.ok) : PyData.canLayAll0 (ts.map T.dat) = true := by
  induction ts with
  | nil => rfl
  | cons t ts ih => simp [PyData.canLayAll0, lay_dat t (ho t List.mem_cons_self).1, ih fun u hu => ho u (List.mem_cons_of_mem _ hu)]
theorem deep_row (ts : List T) (ho : ∀ t ∈ ts, t.ok) : PyData.depthAll (ts.map T.dat) ≤ 21 := by
  induction ts with
  | nil => simp [PyData.depthAll]
  | cons t ts ih =>
    have h1 := deep_dat t
    have h2 := (ho t List.mem_cons_self).2
    have h3 := ih fun u hu => ho u (List.mem_cons_of_mem _ hu)
    simp [PyData.depthAll]
    omega
theorem shaped_row (ts : List T) (ho : ∀ t ∈ ts, t.ok) : SeqAt.shaped (.list (ts.map T.dat)) = true := by
  have h := deep_row ts ho
  simp [SeqAt.shaped, PyData.canLay0, lay_row ts ho, PyData.depth]
  omega
theorem shaped_tree (t : T) (ho : t.ok) : SeqAt.shaped t.dat = true := by
  have h := deep_dat t
  have h2 := ho.2
  simp [SeqAt.shaped, lay_dat t ho.1]
  omega
theorem eq_trees (S : Sto) (t u : T) (ht : t.ok) (hu : u.ok) : fEq t.enc u.enc S = .ok (decide (t = u)) S := by
  have e : fEq t.enc u.enc S = fEqD t.enc u.enc S := by cases t <;> rfl
  rw [e]
  unfold fEqD
  rw [data_enc S t 64 (by have := ht.2; omega), data_enc S u 64 (by have := hu.2; omega)]
  simp [shaped_tree t ht, shaped_tree u hu, eqv_dat]
/-- a list of trees against none -/
theorem eq_nil (S : Sto) (a b : Nat) (ts : List T) (h1 : S[a]? = some (.lst (ts.map T.enc))) (h2 : S[b]? = some (.lst [])) (ho : ∀ t ∈ ts, t.ok) : fEq (.ref a) (.ref b) S = .ok (decide (ts = [])) S := by
  have e := data_row S 64 b [] (by omega) h2 (by simp)
  simp [fEq, fEqD, data_row S 64 a ts (by omega) h1 ho, e, shaped_row ts ho, show SeqAt.shaped (.list []) = true from rfl, PyData.eqv]
  have := eqvAll_dat ts []
  simpa using this
/-- what stands in a list of lists of trees -/
structure Rows (S : Sto) (n : Nat) (rows : List (List T)) (refs : List Nat) : Prop where
  at_ : S[n]? = some (.lst (refs.map .ref))
  len : refs.length = rows.length
  row : ∀ (i : Nat) (r : List T) (a : Nat), rows[i]? = some r → refs[i]? = some a → a ≠ n ∧ S[a]? = some (.lst (r.map T.enc))
theorem Rows.data {S : Sto} {n : Nat} : ∀ {rows : List (List T)} {refs : List Nat}, refs.length = rows.length → (∀ (i : Nat) (r : List T) (a : Nat), rows[i]? = some r → refs[i]? = some a → S[a]? = some (.lst (r.map T.enc))) → (∀ r ∈ rows, ∀ t ∈ r, t.ok) →
    optAll ((refs.map PV.ref).map (data S 63)) = some (rows.map fun r => .list (r.map T.dat))
  | [], [], _, _, _ => rfl
  | [], _ :: _, h, _, _ => by simp at h
  | _ :: _, [], h, _, _ => by simp at h
  | r :: rows, a :: refs, h, hr, ho => by
    have e := data_row S 63 a r (by omega) (hr 0 r a rfl rfl) (ho r List.mem_cons_self)
    have ih := Rows.data (n := n) (rows := rows) (refs := refs) (by simpa using h) (fun i r a h1 h2 => hr (i + 1) r a (by simpa using h1) (by simpa using h2)) fun r hr => ho r (List.mem_cons_of_mem _ hr)
    simp only [List.map_cons, e, optAll, ih]
    rfl
theorem lay_rows (rows : List (List T)) (ho : ∀ r ∈ rows, ∀ t ∈ r, t.ok) : SeqAt.shaped (.list (rows.map fun r => .list (r.map T.dat))) = true := by
  have h1 : PyData.canLayAll0 (rows.map fun r => .list (r.map T.dat)) = true := by
    induction rows with
    | nil => rfl
    | cons r rows ih => simp [PyData.canLayAll0, PyData.canLay0, lay_row r (ho r List.mem_cons_self), ih fun u hu => ho u (List.mem_cons_of_mem _ hu)]
  have h2 : PyData.depthAll (rows.map fun r => .list (r.map T.dat)) ≤ 22 := by
    induction rows with
    | nil => simp [PyData.depthAll]
    | cons r rows ih =>
      have h3 := deep_row r (ho r List.mem_cons_self)
      have h4 := ih (fun u hu => ho u (List.mem_cons_of_mem _ hu)) (by simp [PyData.canLayAll0] at h1; simpa using h1.2)
      simp [PyData.depthAll, PyData.depth]
      omega
  simp [SeqAt.shaped, PyData.canLay0, h1, PyData.depth]
  omega
theorem firstEq_rows (r : List T) : ∀ (rows : List (List T)), firstEq (.list (r.map T.dat)) (rows.map fun r => .list (r.map T.dat)) = if r ∈ rows then some (rows.idxOf r) else none
  | [] => rfl
  | q :: rows => by
    simp only [List.map_cons, firstEq, firstEq_rows r rows, PyData.eqv, eqvAll_dat, decide_eq_true_eq]
    by_cases e : q = r
    · subst e; simp
    · have e' : ¬ r = q := fun h => e h.symm
      rw [if_neg e]
      by_cases m : r ∈ rows
      · simp [m, e', List.idxOf_cons, show (q == r) = false from beq_eq_false_iff_ne.mpr e]
      · simp [m, e']
theorem any_rows (r : List T) : ∀ (rows : List (List T)), ((rows.map fun r => PyData.list (r.map T.dat)).any fun z => PyData.eqv z (.list (r.map T.dat))) = decide (r ∈ rows)
  | [] => rfl
  | q :: rows => by
    have ih := any_rows r rows
    simp only [List.map_cons, List.any_cons, ih, PyData.eqv, eqvAll_dat]
    by_cases e : q = r
    · subst e; simp
    · have e' : ¬ r = q := fun h => e h.symm
      simp [e, e']
theorem rows_in {S : Sto} {n : Nat} {rows : List (List T)} {refs : List Nat} (h : Rows S n rows refs) (hr : ∀ r ∈ rows, ∀ t ∈ r, t.ok) (a : Nat) (r : List T) (ha : S[a]? = some (.lst (r.map T.enc))) (ho : ∀ t ∈ r, t.ok) :
    fIn (.ref a) (.ref n) S = .ok (decide (r ∈ rows)) S := by
  unfold fIn
  simp only [h.at_]
  rw [if_neg (by simp [flatP])]
  unfold inDat
  rw [data_row S 64 a r (by omega) ha ho, Rows.data (n := n) h.len (fun i r a h1 h2 => (h.row i r a h1 h2).2) hr]
  simp only [shaped_row r ho, lay_rows rows hr, Bool.and_self, if_true, any_rows]
theorem rows_index {S : Sto} {n : Nat} {rows : List (List T)} {refs : List Nat} (h : Rows S n rows refs) (hr : ∀ r ∈ rows, ∀ t ∈ r, t.ok) (a : Nat) (r : List T) (ha : S[a]? = some (.lst (r.map T.enc))) (ho : ∀ t ∈ r, t.ok) (hm : r ∈ rows) :
    fIndex (.ref n) [.ref a] S = .ok (.int (rows.idxOf r : Nat)) S := by
  unfold fIndex
  simp only [lstAt, h.at_]
  rw [data_row S 64 a r (by omega) ha ho, Rows.data (n := n) h.len (fun i r a h1 h2 => (h.row i r a h1 h2).2) hr]
  simp only [shaped_row r ho, lay_rows rows hr, Bool.and_self, if_true, firstEq_rows, if_pos hm]
end K71
namespace K71
open PySem Dn Pg
open L2 (atI ixN Key)
theorem lcRun_map {α : Type} (it : Nat → Sto → Option (Option PV)) (g : Tg) (tt : DT) (te : DE) (S0 : Sto) (en : En) (xs : List α) (e : α → PV) (p : α → Bool) (q : α → PV) (hl : xs.length < 10000)
    (hit : ∀ i acc, it i (S0 ++ [.lst acc]) = some (xs.map e)[i]?)
    (hst : ∀ x ∈ xs, ∀ acc, ∃ en1, g.f (e x) en = some en1 ∧ tt en1 (S0 ++ [.lst acc]) = .ok (p x) (S0 ++ [.lst acc]) ∧ (p x = true → te en1 (S0 ++ [.lst acc]) = .ok (q x) (S0 ++ [.lst acc]))) :
    ∀ (m i : Nat) (acc : List PV), i + m = xs.length → acc.length ≤ i → lcRun it g tt te S0.length (m + 1) i en (S0 ++ [.lst acc]) = .ok (.ref S0.length) (S0 ++ [.lst (acc ++ ((xs.drop i).filter p).map q)]) := by
  intro m
  induction m with
  | zero =>
    intro i acc hm ha
    unfold lcRun
    rw [hit, List.getElem?_eq_none_iff.mpr (by simp; omega)]
    simp [List.drop_eq_nil_of_le (show xs.length ≤ i by omega)]
  | succ m ih =>
    intro i acc hm ha
    have hi : i < xs.length := by omega
    unfold lcRun
    rw [hit, List.getElem?_map, List.getElem?_eq_getElem hi]
    obtain ⟨en1, h1, h2, h3⟩ := hst xs[i] (List.getElem_mem hi) acc
    simp only [Option.map_some, h1, h2]
    have hd : (xs.drop i) = xs[i] :: xs.drop (i + 1) := List.drop_eq_getElem_cons hi
    rw [hd]
    cases hp : p xs[i] with
    | false =>
      simp only
      rw [ih (i + 1) acc (by omega) (by omega)]
      rw [List.filter_cons, if_neg (by rw [hp]; exact Bool.false_ne_true)]
    | true =>
      simp only [h3 hp]
      simp only [List.getElem?_append_right (Nat.le_refl _), Nat.sub_self, List.getElem?_cons_zero]
      rw [if_pos (by simp; omega)]
      rw [show (S0 ++ [MO.lst acc]).set S0.length (.lst (acc ++ [q xs[i]])) = S0 ++ [.lst (acc ++ [q xs[i]])] by simp [List.set_append]]
      rw [ih (i + 1) _ (by omega) (by simp; omega)]
      rw [List.filter_cons, if_pos hp, List.map_cons, List.append_assoc, List.singleton_append]
theorem eLc_map {α : Type} {m : DP} {g : Tg} {tt : DT} {te : DE} {S0 : Sto} {en : En} {P : Prv} (xs : List α) (e : α → PV) (p : α → Bool) (q : α → PV) (hm : m en S0 = .ok P S0) (hn : P.n = xs.length) (hl : xs.length < 10000)
    (hit : ∀ i acc, P.it i (S0 ++ [.lst acc]) = some (xs.map e)[i]?)
    (hst : ∀ x ∈ xs, ∀ acc, ∃ en1, g.f (e x) (wipeP en g.sl) = some en1 ∧ tt en1 (S0 ++ [.lst acc]) = .ok (p x) (S0 ++ [.lst acc]) ∧ (p x = true → te en1 (S0 ++ [.lst acc]) = .ok (q x) (S0 ++ [.lst acc]))) :
    eLc m g tt te en S0 = .ok (.ref S0.length) (S0 ++ [.lst ((xs.filter p).map q)]) := by
  unfold eLc
  rw [hm]
  show lcRun P.it g tt te S0.length (P.n + 1) 0 (wipeP en g.sl) (S0 ++ [.lst []]) = _
  rw [hn, lcRun_map P.it g tt te S0 _ xs e p q hl hit hst xs.length 0 [] (by omega) (Nat.le_refl _)]
  simp
/-- over a list of the store, wherever it stands -/
theorem eLc_ref {α : Type} {m : DP} {g : Tg} {tt : DT} {te : DE} {S0 : Sto} {en : En} {a : Nat} (xs : List α) (e : α → PV) (p : α → Bool) (q : α → PV) (ha : S0[a]? = some (.lst (xs.map e)))
    (hm : m en S0 = fIter (.ref a) S0) (hl : xs.length < 10000)
    (hst : ∀ x ∈ xs, ∀ acc, ∃ en1, g.f (e x) (wipeP en g.sl) = some en1 ∧ tt en1 (S0 ++ [.lst acc]) = .ok (p x) (S0 ++ [.lst acc]) ∧ (p x = true → te en1 (S0 ++ [.lst acc]) = .ok (q x) (S0 ++ [.lst acc]))) :
    eLc m g tt te en S0 = .ok (.ref S0.length) (S0 ++ [.lst ((xs.filter p).map q)]) :=
  eLc_map xs e p q (hm.trans (v_iter_lst a _ _ ha)) (by simp [fLstP]) hl (fun i acc => fLst_it _ _ _ _ (pre_get (List.prefix_append _ _) ha)) hst
theorem ix_ref {S : Sto} {a : Nat} {xs : List PV} (h : S[a]? = some (.lst xs)) (i : Int) : fIx (.ref a) (.int i) S = optRes (atI xs i) S := by
  unfold fIx
  simp only [h]
def T.headEq : T → T → Bool
  | .lf a, .lf b => decide (a = b)
  | .one _, .one _ => true
  | .two o _ _, .two p _ _ => decide (o = p)
  | .thr _ _ _, .thr _ _ _ => true
  | _, _ => false
def sameH (t : T) (ts : List T) : Bool := (t :: ts).all (fun u => u.headEq t) && !decide (t.sg = .name)
theorem same_heads_ok (wf : Nat) (S : Sto) (a : Nat) (t : T) (ts : List T) (ha : S[a]? = some (.lst ((t :: ts).map T.enc))) (hp : ∀ u ∈ t :: ts, u.plain = true) :
    RW (fnD 1 3 (b_reading_same_heads wf) [.ref a] S) fun v S' => v = .bl (sameH t ts) ∧ S' = S := by
  refine rw_fn rfl ?_
  simp [b_reading_same_heads, ix_ref ha, at0]
  refine ow_for ((t :: ts).map T.enc) (fun i en S' => (∃ z, en = [some (.ref a), some t.enc, z]) ∧ S' = S ∧ ((t :: ts).take i).all (fun u => u.headEq t) = true) (P0 := fLstP a ((t :: ts).map T.enc).length) (S1 := S) ?_ rfl ⟨⟨_, rfl⟩, rfl, rfl⟩ ?_ ?_ ?_
  · simp [v_iter_lst a _ S ha]
  · rintro i en S' _ ⟨_, rfl, _⟩
    exact fLst_it _ _ _ _ ha
  · rintro i x en S' hx ⟨⟨z, rfl⟩, rfl, hall⟩
    rw [List.getElem?_map] at hx
    cases q : (t :: ts)[i]? with
    | none => rw [q] at hx; cases hx
    | some u =>
      rw [q] at hx
      cases hx
      have hu : u ∈ t :: ts := List.mem_of_getElem? q
      have pu := hp u hu
      have pt := hp t List.mem_cons_self
      refine ⟨_, r_gN .., ?_⟩
      have key : OW (sIf (tOr (tCmp fNe (eBin fIx (eVar 2) (eC (.int 0))) (eBin fIx (eVar 1) (eC (.int 0)))) (tAnd (tCmp fIn (eBin fIx (eVar 2) (eC (.int 0))) (eC c_LEAVES)) (tCmp fNe (eBin fIx (eVar 2) (eC (.int 1))) (eBin fIx (eVar 1) (eC (.int 1)))))) (sRet (eC (.bl false))) (sNil) [some (.ref a), some t.enc, some u.enc] S')
          (fun en S'' => u.headEq t = true ∧ en = [some (.ref a), some t.enc, some u.enc] ∧ S'' = S') (fun v S'' => u.headEq t = false ∧ v = .bl false ∧ S'' = S') := by
        cases u with
        | gap g => cases pu
        | lf l => cases t with
          | gap g => cases pt
          | lf l2 => cases l <;> cases l2 <;> simp [T.sg, Lf.sg, c_LEAVES, inFlat, flatP, T.enc, Lf.val, T.headEq] <;> split <;> simp_all
          | one b => cases l <;> simp [T.sg, Lf.sg, c_LEAVES, inFlat, flatP, T.headEq]
          | two p b c => cases l <;> simp [T.sg, Lf.sg, c_LEAVES, inFlat, flatP, T.headEq]
          | thr b c d => cases l <;> simp [T.sg, Lf.sg, c_LEAVES, inFlat, flatP, T.headEq]
        | one b => cases t with
          | gap g => cases pt
          | lf l2 => cases l2 <;> simp [T.sg, Lf.sg, c_LEAVES, inFlat, flatP, T.headEq]
          | one b => simp [T.sg, Lf.sg, c_LEAVES, inFlat, flatP, T.headEq]
          | two p b c => simp [T.sg, Lf.sg, c_LEAVES, inFlat, flatP, T.headEq]
          | thr b c d => simp [T.sg, Lf.sg, c_LEAVES, inFlat, flatP, T.headEq]
        | two o b c => cases t with
          | gap g => cases pt
          | lf l2 => cases l2 <;> simp [T.sg, Lf.sg, c_LEAVES, inFlat, flatP, T.headEq]
          | one b => simp [T.sg, Lf.sg, c_LEAVES, inFlat, flatP, T.headEq]
          | two p b c => cases o <;> cases p <;> simp [T.sg, Op2.sg, c_LEAVES, inFlat, flatP, T.headEq]
          | thr b c d => simp [T.sg, Lf.sg, c_LEAVES, inFlat, flatP, T.headEq]
        | thr b c d => cases t with
          | gap g => cases pt
          | lf l2 => cases l2 <;> simp [T.sg, Lf.sg, c_LEAVES, inFlat, flatP, T.headEq]
          | one b => simp [T.sg, Lf.sg, c_LEAVES, inFlat, flatP, T.headEq]
          | two p b c => simp [T.sg, Lf.sg, c_LEAVES, inFlat, flatP, T.headEq]
          | thr b c d => simp [T.sg, Lf.sg, c_LEAVES, inFlat, flatP, T.headEq]
      refine key.mono ?_ ?_
      · rintro en S'' ⟨h1, rfl, rfl⟩
        refine ⟨⟨_, rfl⟩, rfl, ?_⟩
        rw [take_one q, List.all_append, hall]
        simp [h1]
      · rintro v S'' ⟨h1, rfl, rfl⟩
        refine ⟨?_, rfl⟩
        have : (t :: ts).all (fun u => u.headEq t) = false := by
          rw [List.all_eq_false]
          exact ⟨u, hu, by simp [h1]⟩
        simp only [sameH, this, Bool.false_and]
  · rintro en S' ⟨⟨z, rfl⟩, rfl, hall⟩
    have hall' : (t :: ts).all (fun u => u.headEq t) = true := by
      rw [List.length_map, List.take_length] at hall
      exact hall
    simp [sameH, hall', -List.all_cons]
end K71
namespace K71
open PySem Dn Pg
open L2 (atI ixN Key)
def wd (n : Nat) : Str := if n < 26 then ⟨#[97 + n]⟩ else ⟨#[97 + (n / 26 - 1), 97 + n % 26]⟩
def nm (n : Nat) : Str := Str.ofString "g" ++ wd n
theorem letter : ∀ i : Nat, i < 26 → (atI (Str.ofString "abcdefghijklmnopqrstuvwxyz").cps.toList (i : Int)) = some (97 + i) := by decide +kernel
theorem nm_inj : ∀ i < 64, ∀ j < 64, nm i = nm j → i = j := by decide +kernel
theorem nm_fine : ∀ i < 64, PyData.strOk (nm i) = true := by decide +kernel
theorem wd_len (n : Nat) : (wd n).length ≤ 2 := by unfold wd; split <;> simp [Str.length]
theorem ix_letter (S : Sto) (i : Nat) (h : i < 26) : fIx c_LETTERS (.int (i : Int)) S = .ok (.str ⟨#[97 + i]⟩) S := by
  unfold c_LETTERS
  have e : fIx (PV.str (Str.ofString "abcdefghijklmnopqrstuvwxyz")) (.int (i : Int)) S = optRes ((atI (Str.ofString "abcdefghijklmnopqrstuvwxyz").cps.toList (i : Int)).map fun c => .str ⟨#[c]⟩) S := by
    exact if_pos (c := (Str.ofString "abcdefghijklmnopqrstuvwxyz").length ≤ sizeLine) (e := Res.bad) (by decide +kernel)
  exact e.trans (by rw [letter i h]; rfl)
@[simp] theorem v_sub (i j : Int) (S : Sto) : fSub (.int i) (.int j) S = .ok (.int (i - j)) S := rfl
@[simp] theorem v_ge (i j : Int) (S : Sto) : fGe (.int i) (.int j) S = .ok (decide (j ≤ i)) S := rfl
theorem v_mod (i j : Int) (S : Sto) (h : 0 < j) : fMod (.int i) (.int j) S = .ok (.int (i % j)) S := if_pos h
theorem v_div (i j : Int) (S : Sto) (h : 0 < j ∧ j.natAbs.log2 < 9000) : fDiv (.int i) (.int j) S = .ok (.int (i / j)) S := if_pos h
theorem word_by_ok (w : Nat) (S : Sto) (n : Nat) (h : n < 64) : fnD 1 2 (b_names_word_by (w + 2)) [.int (n : Int)] S = .ok (.str (wd n)) S := by
  have e1 := ix_letter S (n % 26) (Nat.mod_lt _ (by omega))
  have e5 : (((n % 26 : Nat)) : Int) = (n : Int) % 26 := by omega
  rw [e5] at e1
  by_cases c : n < 26
  · have c' : ¬ (26 : Int) ≤ (n : Int) := by omega
    simp [fnD, rS, b_names_word_by, whileRun, v_mod, c', e1]
    simp [wd, c, Nat.mod_eq_of_lt c]
  · have c' : (26 : Int) ≤ (n : Int) := by omega
    have e2 := ix_letter S (n / 26 - 1) (by omega)
    have e3 : (((n / 26 - 1 : Nat)) : Int) = (n : Int) / 26 - 1 := by omega
    have c2 : ¬ (26 : Int) ≤ (n : Int) / 26 - 1 := by omega
    have e4 : ((n : Int) / 26 - 1) % 26 = (n : Int) / 26 - 1 := by omega
    rw [e3] at e2
    have e6 : 0 < (26 : Int) ∧ ((26 : Int)).natAbs.log2 < 9000 := by decide +kernel
    simp [fnD, rS, b_names_word_by, whileRun, v_mod, c', e1, v_div _ _ _ e6, e4, e2, fAdd, Str.length, c2]
    simp [wd, c]
    rfl
def kid (i : Nat) (t : T) : T := (t.parts[i]?).getD (.gap ⟨#[]⟩)
def need : T → List T → List (List T)
  | .lf l, ts => if sameH (.lf l) ts = true then [] else [.lf l :: ts]
  | .gap g, ts => [.gap g :: ts]
  | .one a, ts => if sameH (.one a) ts = true then need a (ts.map (kid 0)) else [.one a :: ts]
  | .two o a b, ts => if sameH (.two o a b) ts = true then need a (ts.map (kid 0)) ++ need b (ts.map (kid 1)) else [.two o a b :: ts]
  | .thr a b c, ts => if sameH (.thr a b c) ts = true then need a (ts.map (kid 0)) ++ (need b (ts.map (kid 1)) ++ need c (ts.map (kid 2))) else [.thr a b c :: ts]
def shp (ρ : List T → Str) : T → List T → T
  | .lf l, ts => if sameH (.lf l) ts = true then .lf l else .gap (ρ (.lf l :: ts))
  | .gap g, ts => .gap (ρ (.gap g :: ts))
  | .one a, ts => if sameH (.one a) ts = true then .one (shp ρ a (ts.map (kid 0))) else .gap (ρ (.one a :: ts))
  | .two o a b, ts => if sameH (.two o a b) ts = true then .two o (shp ρ a (ts.map (kid 0))) (shp ρ b (ts.map (kid 1))) else .gap (ρ (.two o a b :: ts))
  | .thr a b c, ts => if sameH (.thr a b c) ts = true then .thr (shp ρ a (ts.map (kid 0))) (shp ρ b (ts.map (kid 1))) (shp ρ c (ts.map (kid 2))) else .gap (ρ (.thr a b c :: ts))
def needs : List T → Nat → List T → List (List T)
  | [], _, _ => []
  | p :: ps, i, ts => need p (ts.map (kid i)) ++ needs ps (i + 1) ts
def shps (ρ : List T → Str) : List T → Nat → List T → List T
  | [], _, _ => []
  | p :: ps, i, ts => shp ρ p (ts.map (kid i)) :: shps ρ ps (i + 1) ts
theorem sameH_gap (g : Str) (ts : List T) : sameH (.gap g) ts = false := by simp [sameH, T.headEq]
theorem need_not {t : T} {ts : List T} (h : sameH t ts = false) : need t ts = [t :: ts] := by cases t <;> simp [need, h]
theorem shp_not {ρ : List T → Str} {t : T} {ts : List T} (h : sameH t ts = false) : shp ρ t ts = .gap (ρ (t :: ts)) := by cases t <;> simp [shp, h]
theorem need_same {t : T} {ts : List T} (h : sameH t ts = true) : need t ts = needs t.parts 0 ts := by
  cases t with
  | gap g => rw [sameH_gap] at h; cases h
  | _ => simp [need, h, needs, T.parts]
theorem shp_same {ρ : List T → Str} {t : T} {ts : List T} (h : sameH t ts = true) : (shp ρ t ts).enc = t.wp ((shps ρ t.parts 0 ts).map T.enc) := by
  cases t with
  | gap g => rw [sameH_gap] at h; cases h
  | _ => simp [shp, h, shps, T.parts, T.wp, T.enc]
def addR (rows new : List (List T)) : List (List T) := new.foldl (fun rows r => if r ∈ rows then rows else rows ++ [r]) rows
theorem addR_app (rows a b : List (List T)) : addR rows (a ++ b) = addR (addR rows a) b := List.foldl_append
theorem addR_pre : ∀ (new rows : List (List T)), rows <+: addR rows new
  | [], rows => List.prefix_rfl
  | r :: new, rows => by
    show rows <+: addR (if r ∈ rows then rows else rows ++ [r]) new
    by_cases c : r ∈ rows
    · rw [if_pos c]; exact addR_pre new rows
    · rw [if_neg c]; exact (List.prefix_append _ _).trans (addR_pre new _)
theorem addR_len : ∀ (new rows : List (List T)), (addR rows new).length ≤ rows.length + new.length
  | [], rows => Nat.le_refl _
  | r :: new, rows => by
    show (addR (if r ∈ rows then rows else rows ++ [r]) new).length ≤ _
    refine Nat.le_trans (addR_len new _) ?_
    split <;> simp <;> omega
theorem mem_addR : ∀ {new rows : List (List T)} {x : List T}, x ∈ addR rows new ↔ x ∈ rows ∨ x ∈ new
  | [], rows, x => by simp [addR]
  | r :: new, rows, x => by
    show x ∈ addR (if r ∈ rows then rows else rows ++ [r]) new ↔ _
    rw [mem_addR]
    by_cases c : r ∈ rows
    · rw [if_pos c, List.mem_cons]
      exact ⟨fun h => h.elim .inl fun h => .inr (.inr h), fun h => h.elim .inl fun h => h.elim (fun e => .inl (e ▸ c)) .inr⟩
    · rw [if_neg c]
      simp [or_assoc]
theorem addR_nodup : ∀ {new rows : List (List T)}, rows.Nodup → (addR rows new).Nodup
  | [], _, h => h
  | r :: new, rows, h => by
    show (addR (if r ∈ rows then rows else rows ++ [r]) new).Nodup
    apply addR_nodup
    by_cases q : r ∈ rows
    · rw [if_pos q]; exact h
    · rw [if_neg q]
      rw [List.nodup_append]
      exact ⟨h, by simp, fun a ha b hb e => by simp at hb; subst hb; exact q (e ▸ ha)⟩
def T.leaves : T → Nat
  | .one a => a.leaves
  | .two _ a b => a.leaves + b.leaves
  | .thr a b c => a.leaves + (b.leaves + c.leaves)
  | _ => 1
theorem T.leaves_pos : ∀ t : T, 0 < t.leaves
  | .lf _ => Nat.one_pos
  | .gap _ => Nat.one_pos
  | .one a => a.leaves_pos
  | .two _ a b => by have := a.leaves_pos; simp [T.leaves]; omega
  | .thr a b c => by have := a.leaves_pos; simp [T.leaves]; omega
theorem need_len : ∀ (t : T) (ts : List T), (need t ts).length ≤ t.leaves
  | .lf l, ts => by simp only [need]; split <;> simp [T.leaves]
  | .gap g, ts => by simp [need, T.leaves]
  | .one a, ts => by
    have h1 := need_len a (ts.map (kid 0))
    have h2 := a.leaves_pos
    simp only [need, T.leaves]; split
    · exact h1
    · simp; omega
  | .two o a b, ts => by
    have h1 := need_len a (ts.map (kid 0))
    have h2 := need_len b (ts.map (kid 1))
    have h3 := a.leaves_pos
    simp only [need, T.leaves]; split
    · simp; omega
    · simp; omega
  | .thr a b c, ts => by
    have h1 := need_len a (ts.map (kid 0))
    have h2 := need_len b (ts.map (kid 1))
    have h4 := need_len c (ts.map (kid 2))
    have h3 := a.leaves_pos
    simp only [need, T.leaves]; split
    · simp; omega
    · simp; omega
def leavesL (ps : List T) : Nat := (ps.map T.leaves).foldr (· + ·) 0
theorem leavesL_parts (t : T) : leavesL t.parts ≤ t.leaves := by cases t <;> simp [leavesL, T.parts, T.leaves]
theorem needs_len : ∀ (ps : List T) (i : Nat) (ts : List T), (needs ps i ts).length ≤ leavesL ps
  | [], _, _ => Nat.le_refl _
  | p :: ps, i, ts => by
    have h1 := need_len p (ts.map (kid i))
    have h2 := needs_len ps (i + 1) ts
    simp only [needs, List.length_append]
    show _ ≤ p.leaves + leavesL ps
    omega
theorem needs_app : ∀ (ps qs : List T) (i : Nat) (ts : List T), needs (ps ++ qs) i ts = needs ps i ts ++ needs qs (i + ps.length) ts
  | [], qs, i, ts => by simp [needs]
  | p :: ps, qs, i, ts => by
    simp only [List.cons_append, needs, needs_app ps qs (i + 1) ts, List.append_assoc, List.length_cons]
    rw [show i + 1 + ps.length = i + (ps.length + 1) by omega]
theorem shps_app (ρ : List T → Str) : ∀ (ps qs : List T) (i : Nat) (ts : List T), shps ρ (ps ++ qs) i ts = shps ρ ps i ts ++ shps ρ qs (i + ps.length) ts
  | [], qs, i, ts => by simp [shps]
  | p :: ps, qs, i, ts => by
    simp only [List.cons_append, shps, shps_app ρ ps qs (i + 1) ts, List.length_cons]
    rw [show i + 1 + ps.length = i + (ps.length + 1) by omega]
theorem shps_len (ρ : List T → Str) : ∀ (ps : List T) (i : Nat) (ts : List T), (shps ρ ps i ts).length = ps.length
  | [], _, _ => rfl
  | p :: ps, i, ts => by simp [shps, shps_len ρ ps]
/-- gaps called by where their rows stand -/
def nmR (F : List (List T)) (r : List T) : Str := nm (F.idxOf r)
/-- nothing changed but the list of rows -/
def Fr (n : Nat) (S S' : Sto) : Prop := S.length ≤ S'.length ∧ ∀ i, i < S.length → i ≠ n → S'[i]? = S[i]?
theorem Fr.rfl' (n : Nat) (S : Sto) : Fr n S S := ⟨Nat.le_refl _, fun _ _ _ => rfl⟩
theorem Fr.trans {n : Nat} {S S1 S2 : Sto} (h : Fr n S S1) (h' : Fr n S1 S2) : Fr n S S2 := ⟨Nat.le_trans h.1 h'.1, fun i hi hn => (h'.2 i (Nat.lt_of_lt_of_le hi h.1) hn).trans (h.2 i hi hn)⟩
theorem Fr.of_pre {n : Nat} {S S1 : Sto} (h : S <+: S1) : Fr n S S1 := by
  obtain ⟨G, rfl⟩ := h
  exact ⟨by simp, fun i hi _ => List.getElem?_append_left hi⟩
theorem Fr.get {n : Nat} {S S1 : Sto} (h : Fr n S S1) {i : Nat} {x : MO} (e : S[i]? = some x) (hn : i ≠ n) : S1[i]? = some x := (h.2 i (List.getElem?_eq_some_iff.mp e).1 hn).trans e
theorem pre_idx {F rows : List (List T)} (h : rows <+: F) {r : List T} (hr : r ∈ rows) : F.idxOf r = rows.idxOf r := by
  obtain ⟨G, rfl⟩ := h
  rw [List.idxOf_append, if_pos hr]
end K71
namespace K71
open PySem Dn Pg
open L2 (atI ixN Key)
def T.fit (t : T) : Prop := t.ok ∧ t.plain = true
theorem headEq_parts {u t : T} (h : u.headEq t = true) : u.parts.length = t.parts.length := by
  cases u <;> cases t <;> simp [T.headEq] at h <;> rfl
theorem fit_part {t u : T} (h : u ∈ t.parts) (ht : t.fit) : u.fit := by
  have hd := T.deep_part h
  refine ⟨⟨?_, by have := ht.1.2; omega⟩, ?_⟩
  · have hf := ht.1.1
    cases t <;> simp [T.parts] at h <;> simp [T.fine] at hf
    case one a => subst h; exact hf
    case two o a b => rcases h with rfl | rfl; exact hf.1; exact hf.2
    case thr a b c => rcases h with rfl | rfl | rfl; exact hf.1; exact hf.2.1; exact hf.2.2
  · have hf := ht.2
    cases t <;> simp [T.parts] at h <;> simp [T.plain] at hf
    case one a => subst h; exact hf
    case two o a b => rcases h with rfl | rfl; exact hf.1; exact hf.2
    case thr a b c => rcases h with rfl | rfl | rfl; exact hf.1; exact hf.2.1; exact hf.2.2
theorem kid_mem {t : T} {i : Nat} (h : i < t.parts.length) : kid i t ∈ t.parts := by
  unfold kid
  rw [List.getElem?_eq_getElem h]
  exact List.getElem_mem h
theorem kid_get {t : T} {i : Nat} (h : i < t.parts.length) : t.parts[i]? = some (kid i t) := by
  unfold kid
  rw [List.getElem?_eq_getElem h]
  rfl
theorem sameH_all {t : T} {ts : List T} (h : sameH t ts = true) : ∀ u ∈ t :: ts, u.parts.length = t.parts.length := by
  intro u hu
  simp only [sameH, Bool.and_eq_true, List.all_eq_true] at h
  exact headEq_parts (h.1 u hu)
theorem need_fit : ∀ (t : T) (ts : List T), (∀ u ∈ t :: ts, u.fit) → ∀ r ∈ need t ts, ∀ u ∈ r, u.fit := by
  have step : ∀ (t : T) (ts : List T) (i : Nat), sameH t ts = true → i < t.parts.length → (∀ u ∈ t :: ts, u.fit) → ∀ u ∈ kid i t :: ts.map (kid i), u.fit := by
    intro t ts i hs hi h u hu
    have hall := sameH_all hs
    rcases List.mem_cons.mp hu with rfl | hu
    · exact fit_part (kid_mem hi) (h t List.mem_cons_self)
    · obtain ⟨w, hw1, rfl⟩ := List.mem_map.mp hu
      exact fit_part (kid_mem (by rw [hall w (List.mem_cons_of_mem _ hw1)]; exact hi)) (h w (List.mem_cons_of_mem _ hw1))
  intro t
  induction t with
  | lf l =>
    intro ts h r hr
    simp only [need] at hr
    split at hr
    · cases hr
    · simp at hr; subst hr; exact h
  | gap g => intro ts h r hr; simp [need] at hr; subst hr; exact h
  | one a ih =>
    intro ts h r hr
    simp only [need] at hr
    split at hr
    · rename_i c
      exact ih _ (step _ ts 0 c (by simp [T.parts]) h) r hr
    · simp at hr; subst hr; exact h
  | two o a b iha ihb =>
    intro ts h r hr
    simp only [need] at hr
    split at hr
    · rename_i c
      rcases List.mem_append.mp hr with hr | hr
      · exact iha _ (step _ ts 0 c (by simp [T.parts]) h) r hr
      · exact ihb _ (step _ ts 1 c (by simp [T.parts]) h) r hr
    · simp at hr; subst hr; exact h
  | thr a b d iha ihb ihd =>
    intro ts h r hr
    simp only [need] at hr
    split at hr
    · rename_i c
      rcases List.mem_append.mp hr with hr | hr
      · exact iha _ (step _ ts 0 c (by simp [T.parts]) h) r hr
      · rcases List.mem_append.mp hr with hr | hr
        · exact ihb _ (step _ ts 1 c (by simp [T.parts]) h) r hr
        · exact ihd _ (step _ ts 2 c (by simp [T.parts]) h) r hr
    · simp at hr; subst hr; exact h
def ShapeOk (f : Fn) (D : Nat) : Prop := ∀ (t : T) (ts : List T) (S : Sto) (a n : Nat) (rows : List (List T)) (refs : List Nat), t.deep ≤ D → S[a]? = some (.lst ((t :: ts).map T.enc)) → a ≠ n → Rows S n rows refs →
  (∀ r ∈ rows, ∀ u ∈ r, u.ok) → (∀ u ∈ t :: ts, u.fit) → ts.length < 1000 → rows.length + (need t ts).length ≤ 64 →
  RW (f [.ref a, .ref n] S) fun v S' => Fr n S S' ∧ (∃ refs', Rows S' n (addR rows (need t ts)) refs' ∧ ∀ x ∈ refs', x ∈ refs ∨ x = a ∨ S.length ≤ x) ∧ ∀ F, addR rows (need t ts) <+: F → v = (shp (nmR F) t ts).enc
theorem Rows.set {S : Sto} {n s : Nat} {rows : List (List T)} {refs : List Nat} (h : Rows S n rows refs) (hn : s ≠ n) (hr : ∀ x ∈ refs, x ≠ s) (y : MO) : Rows (S.set s y) n rows refs :=
  ⟨by rw [List.getElem?_set_ne hn]; exact h.at_, h.len, fun i r a h1 h2 => by
    obtain ⟨h3, h4⟩ := h.row i r a h1 h2
    refine ⟨h3, ?_⟩
    rw [List.getElem?_set_ne (fun e => hr a (List.mem_of_getElem? h2) e.symm)]
    exact h4⟩
theorem Rows.pre {S S' : Sto} {n : Nat} {rows : List (List T)} {refs : List Nat} (h : Rows S n rows refs) (hp : S <+: S') : Rows S' n rows refs :=
  ⟨pre_get hp h.at_, h.len, fun i r a h1 h2 => ⟨(h.row i r a h1 h2).1, pre_get hp (h.row i r a h1 h2).2⟩⟩
theorem Rows.lt {S : Sto} {n : Nat} {rows : List (List T)} {refs : List Nat} (h : Rows S n rows refs) : ∀ x ∈ refs, x < S.length := by
  intro x hx
  obtain ⟨i, hi⟩ := List.getElem?_of_mem hx
  have hl : i < rows.length := by rw [← h.len]; exact (List.getElem?_eq_some_iff.mp hi).1
  exact (List.getElem?_eq_some_iff.mp (h.row i _ x (List.getElem?_eq_getElem hl) hi).2).1
theorem Rows.add {S : Sto} {n a : Nat} {rows : List (List T)} {refs : List Nat} (h : Rows S n rows refs) (hn : a ≠ n) (r : List T) (ha : S[a]? = some (.lst (r.map T.enc))) : Rows (S.set n (.lst (refs.map .ref ++ [.ref a]))) n (rows ++ [r]) (refs ++ [a]) := by
  have hl : n < S.length := (List.getElem?_eq_some_iff.mp h.at_).1
  refine ⟨by rw [List.getElem?_set_self hl]; simp, by simp [h.len], fun i q b h1 h2 => ?_⟩
  by_cases c : i < rows.length
  · rw [List.getElem?_append_left c] at h1
    rw [List.getElem?_append_left (by rw [h.len]; exact c)] at h2
    obtain ⟨h3, h4⟩ := h.row i q b h1 h2
    exact ⟨h3, by rw [List.getElem?_set_ne (fun e => h3 e.symm)]; exact h4⟩
  · have e : i = rows.length := by
      have := (List.getElem?_eq_some_iff.mp h1).1
      simp at this
      omega
    subst e
    simp at h1
    rw [← h.len] at h2
    simp at h2
    subst h1 h2
    exact ⟨hn, by rw [List.getElem?_set_ne (fun e => hn e.symm)]; exact ha⟩
theorem range_ok (n : Nat) (h : n < 1000) (S : Sto) : fRange1 [.int (n : Int)] S = .ok (fRngP 0 n) S := by
  have e1 : (2 : Int) ^ 62 = 4611686018427387904 := by decide +kernel
  unfold fRange1
  simp only [e1]
  rw [if_pos (by omega)]
  simp
theorem pr1_ok {m : DA} {en : En} {S S' : Sto} {n : Nat} (h : m en S = .ok [.int (n : Int)] S') (hn : n < 1000) : pRange1 m en S = .ok (fRngP 0 n) S' := by
  rw [r_pRange1, h, r_bind_ok, range_ok n hn S']
theorem filter_yes {α : Type} (l : List α) : l.filter (fun _ => true) = l := List.filter_eq_self.mpr (fun _ _ => rfl)
theorem isLst_of {S : Sto} {n : Nat} {xs : List PV} (h : S[n]? = some (.lst xs)) : isLst (.ref n) S = true := by simp [isLst, lstAt, h]
theorem app_of {S : Sto} {n : Nat} {xs : List PV} (h : S[n]? = some (.lst xs)) (hl : xs.length < 16777216) (y : PV) : fAppend (.ref n) [y] S = .ok .non (S.set n (.lst (xs ++ [y]))) := by
  simp [fAppend, h, hl]
theorem add_name (S : Sto) (n : Nat) : fAdd (.str "g") (.str (wd n)) S = .ok (.str (nm n)) S := by
  have h := wd_len n
  show (if (Str.ofString "g").length + (wd n).length ≤ sizeLine then Res.ok (PV.str (nm n)) S else Res.bad) = _
  rw [if_pos (by
    have e : (Str.ofString "g").length = 1 := by decide +kernel
    rw [e]; simp; omega)]
theorem shared_shape_ok {fw fh fs fp fq : Fn} (wf : Nat) (D : Nat)
    (hp : ∀ (u : T) S, fp [u.enc] S = .ok (.tup (u.parts.map T.enc)) S)
    (hw : ∀ S (n : Nat), n < 64 → fw [.int (n : Int)] S = .ok (.str (wd n)) S)
    (hq : ∀ (u : T) S n xs, S[n]? = some (.lst xs) → xs.length < 100 → fq [u.enc, .ref n] S = .ok (u.wp xs) S)
    (hh : ∀ S a t ts, S[a]? = some (.lst ((t :: ts).map T.enc)) → (∀ u ∈ t :: ts, u.plain = true) → RW (fh [.ref a] S) fun v S' => v = .bl (sameH t ts) ∧ S' = S)
    (hs : ShapeOk fs D) : ShapeOk (fnD 2 5 (b_reading_shared_shape fw fh fs fp fq wf)) (D + 1) := by
  intro t ts S a n rows refs hD ha hn hR hrok hfit hlen hlv
  have hnl : n < S.length := (List.getElem?_eq_some_iff.mp hR.at_).1
  have hal : a < S.length := (List.getElem?_eq_some_iff.mp ha).1
  refine rw_fn rfl ?_
  simp [b_reading_shared_shape]
  refine (hh S a t ts ha fun u hu => (hfit u hu).2).mono ?_
  rintro _ S1 ⟨rfl, rfl⟩
  simp
  cases hsm : sameH t ts with
  | false =>
    simp
    have hro : ∀ u ∈ t :: ts, u.ok := fun u hu => (hfit u hu).1
    have key : ∀ S' refs', Rows S' n (addR rows [t :: ts]) refs' → S'[a]? = some (.lst ((t :: ts).map T.enc)) → Fr n S1 S' → (∀ x ∈ refs', x ∈ refs ∨ x = a ∨ S1.length ≤ x) →
        OW (sRet (eTup (aCons (eC (.str "gap")) (aCons (eBin fAdd (eC (.str "g")) (eFn fw (aCons (eMt isLst fIndex (eVar 1) (aCons (eVar 0) (aNil))) (aNil)))) (aCons (eTup (aNil)) (aNil))))) [some (.ref a), some (.ref n), none, none, none] S') (fun _ _ => False)
          (fun v S' => Fr n S1 S' ∧ (∃ refs', Rows S' n (addR rows (need t ts)) refs' ∧ ∀ x ∈ refs', x ∈ refs ∨ x = a ∨ S1.length ≤ x) ∧ ∀ F, addR rows (need t ts) <+: F → v = (shp (nmR F) t ts).enc) := by
      intro S' refs' hR' ha' hF hx
      have hm : (t :: ts) ∈ addR rows [t :: ts] := mem_addR.mpr (.inr List.mem_cons_self)
      have hok' : ∀ r ∈ addR rows [t :: ts], ∀ u ∈ r, u.ok := fun r hr => (mem_addR.mp hr).elim (hrok r) fun h => by simp at h; subst h; exact hro
      have hi := rows_index hR' hok' a _ ha' hro hm
      have hlt : (addR rows [t :: ts]).idxOf (t :: ts) < 64 := by
        have h1 := List.idxOf_lt_length_of_mem hm
        have h2 := addR_len [t :: ts] rows
        rw [need_not hsm] at hlv
        simp at h2 hlv
        omega
      simp [isLst_of hR'.at_, hi, hw _ _ hlt]
      rw [show fAdd (PV.str (Str.ofString "g")) _ S' = _ from add_name S' _]
      simp
      refine ⟨hF, ⟨refs', by rw [need_not hsm]; exact hR', hx⟩, fun F hF => ?_⟩
      rw [need_not hsm] at hF
      rw [shp_not hsm, nmR, pre_idx hF hm]
      rfl
    have hin := rows_in hR hrok a _ ha hro
    by_cases c : (t :: ts) ∈ rows
    · simp [fNotIn, hin, rNot, c]
      have e : addR rows [t :: ts] = rows := by simp [addR, c]
      have := key S1 refs (by rw [e]; exact hR) ha (Fr.rfl' n S1) (fun x hx => .inl hx)
      simpa using this
    · have hle : refs.length < 16777216 := by rw [hR.len]; omega
      simp [fNotIn, hin, rNot, c, isLst_of hR.at_, app_of hR.at_ (by simpa using hle)]
      have e : addR rows [t :: ts] = rows ++ [t :: ts] := by simp [addR, c]
      have := key (S1.set n (.lst (refs.map .ref ++ [.ref a]))) (refs ++ [a]) (by rw [e]; exact hR.add hn _ ha) (by rw [List.getElem?_set_ne (fun e => hn e.symm)]; exact ha) ⟨by simp, fun i hi hin => by rw [List.getElem?_set_ne (fun e => hin e.symm)]⟩ (fun x hx => by simp at hx; rcases hx with h | h; exact .inl h; exact .inr (.inl h))
      simpa using this
  | true =>
    simp
    have hall := sameH_all hsm
    have hps : t.parts.length ≤ 3 := by cases t <;> simp [T.parts]
    have ea : (S1 ++ [MO.lst []])[a]? = some (.lst ((t :: ts).map T.enc)) := pre_get (List.prefix_append _ _) ha
    refine ow_for ((List.range t.parts.length).map fun i => PV.int (i : Nat)) (fun i en S' => (∃ z1 z2, en = [some (.ref a), some (.ref n), some (.ref S1.length), z1, z2]) ∧ Fr n S1 S' ∧ S1.length < S'.length ∧
      (∃ refs', Rows S' n (addR rows (needs (t.parts.take i) 0 ts)) refs' ∧ ∀ x ∈ refs', x ∈ refs ∨ x = a ∨ S1.length + 1 ≤ x) ∧
      ∃ xs, S'[S1.length]? = some (.lst xs) ∧ xs.length = i ∧ ∀ F, addR rows (needs (t.parts.take i) 0 ts) <+: F → xs = (shps (nmR F) (t.parts.take i) 0 ts).map T.enc)
      (P0 := fRngP 0 t.parts.length) (S1 := S1 ++ [.lst []]) ?_ (by simp [fRngP]) ?_ ?_ ?_ ?_
    · exact pr1_ok (by simp [ix_ref ea, at0, hp]) (by omega)
    · refine ⟨⟨_, _, rfl⟩, Fr.of_pre (List.prefix_append _ _), by simp, ⟨refs, by simpa [needs, addR] using hR.pre (List.prefix_append _ _), fun x hx => .inl hx⟩, [], by simp, rfl, fun F _ => by simp [shps]⟩
    · rintro i en S' hi _
      simp only [fRngP, List.length_map, List.length_range] at hi ⊢
      by_cases c : i < t.parts.length
      · simp [c]
      · simp [c]
    · rintro i x en S' hx ⟨⟨z1, z2, rfl⟩, hF, hl, ⟨refs', hR', hx'⟩, xs, h1, h2, h3⟩
      have hi : i < t.parts.length := by
        have := (List.getElem?_eq_some_iff.mp hx).1
        simpa using this
      have ex : x = .int (i : Nat) := by
        rw [List.getElem?_map, List.getElem?_range hi] at hx
        exact (Option.some.inj hx).symm
      subst ex
      refine ⟨_, r_gN .., ?_⟩
      have ha' : S'[a]? = some (.lst ((t :: ts).map T.enc)) := hF.get ha hn
      have hs1 : S1.length ≠ n := by omega
      simp [isLst_of h1]
      have hix : ∀ u ∈ t :: ts, ∀ S, fIx (.tup (u.parts.map T.enc)) (.int (i : Int)) S = .ok (kid i u).enc S := by
        intro u hu S
        have e1 := hall u hu
        show optRes (atI _ ((i : Nat) : Int)) _ = _
        rw [atN, List.getElem?_map, kid_get (by omega)]
        rfl
      rw [eLc_ref (a := a) (t :: ts) T.enc (fun _ => true) (fun u => (kid i u).enc) ha' (by simp) (by simp; omega) (fun u hu acc => ⟨_, r_gN .., rfl, fun _ => by simp [wipeP, gN, hp, hix u hu]⟩), filter_yes]
      simp
      have hk := kid_mem hi
      have hfk : ∀ u ∈ kid i t :: ts.map (kid i), u.fit := by
        intro u hu
        rcases List.mem_cons.mp hu with rfl | hu
        · exact fit_part hk (hfit t List.mem_cons_self)
        · obtain ⟨w, hw1, rfl⟩ := List.mem_map.mp hu
          exact fit_part (kid_mem (by rw [hall w (List.mem_cons_of_mem _ hw1)]; exact hi)) (hfit w (List.mem_cons_of_mem _ hw1))
      have hdk : (kid i t).deep ≤ D := by have := T.deep_part hk; omega
      have hsplit : t.parts = t.parts.take i ++ kid i t :: t.parts.drop (i + 1) := by
        have := List.take_append_drop i t.parts
        rw [List.drop_eq_getElem_cons hi] at this
        have e := kid_get hi
        rw [List.getElem?_eq_getElem hi] at e
        rw [Option.some.inj e] at this
        exact this.symm
      have hlv2 : (addR rows (needs (t.parts.take i) 0 ts)).length + (need (kid i t) (ts.map (kid i))).length ≤ 64 := by
        have q1 := addR_len (needs (t.parts.take i) 0 ts) rows
        have q2 : (needs t.parts 0 ts).length = (needs (t.parts.take i) 0 ts).length + ((need (kid i t) (ts.map (kid i))).length + (needs (t.parts.drop (i + 1)) (i + 1) ts).length) := by
          conv => lhs; rw [hsplit]
          rw [needs_app]
          simp [needs, Nat.min_eq_left (Nat.le_of_lt hi)]
        rw [need_same hsm] at hlv
        omega
      have hro2 : ∀ r ∈ addR rows (needs (t.parts.take i) 0 ts), ∀ u ∈ r, u.ok := by
        intro r hr u hu
        rcases mem_addR.mp hr with hr | hr
        · exact hrok r hr u hu
        · have : r ∈ need t ts := by
            rw [need_same hsm, hsplit, needs_app]
            exact List.mem_append_left _ hr
          exact (need_fit t ts hfit r this u hu).1
      refine (hs (kid i t) (ts.map (kid i)) (S' ++ [.lst ((kid i t).enc :: ts.map fun u => (kid i u).enc)]) S'.length n _ refs' hdk (by simp [Function.comp_def]) (by
        have := (List.getElem?_eq_some_iff.mp hR'.at_).1
        omega) (hR'.pre (List.prefix_append _ _)) hro2 hfk (by simpa using hlen) hlv2).mono ?_
      rintro v S3 ⟨f1, ⟨refs3, r1, r2⟩, f3⟩
      have g1 : S3[S1.length]? = some (.lst xs) := f1.get (pre_get (List.prefix_append _ _) h1) hs1
      have htk : t.parts.take (i + 1) = t.parts.take i ++ [kid i t] := take_one (kid_get hi)
      have hrn : addR rows (needs (t.parts.take (i + 1)) 0 ts) = addR (addR rows (needs (t.parts.take i) 0 ts)) (need (kid i t) (ts.map (kid i))) := by
        rw [htk, needs_app, addR_app]
        simp [needs, Nat.min_eq_left (Nat.le_of_lt hi)]
      rw [app_of g1 (by omega)]
      simp
      have hne : ∀ x ∈ refs3, x ≠ S1.length := by
        intro x hx
        rcases r2 x hx with h | h | h
        · rcases hx' x h with h | h | h
          · have := hR.lt x h; omega
          · omega
          · omega
        · omega
        · simp at h; omega
      refine ⟨?_, ?_, ⟨refs3, ?_, ?_⟩, ?_⟩
      · have f4 : Fr n S1 S3 := hF.trans ((Fr.of_pre (List.prefix_append _ _)).trans f1)
        exact ⟨by simpa using f4.1, fun j hj hjn => by rw [List.getElem?_set_ne (by omega)]; exact f4.2 j hj hjn⟩
      · have := f1.1; simp at this; omega
      · rw [hrn]; exact r1.set hs1 hne _
      · intro x hx
        rcases r2 x hx with h | h | h
        · exact hx' x h
        · exact .inr (.inr (by omega))
        · simp at h; exact .inr (.inr (by omega))
      · have hls : S1.length < S3.length := (List.getElem?_eq_some_iff.mp g1).1
        refine ⟨xs ++ [v], by rw [List.getElem?_set_self hls], by simp [h2], fun F hF3 => ?_⟩
        rw [hrn] at hF3
        rw [htk, shps_app, List.map_append, ← h3 F ((addR_pre _ _).trans hF3), f3 F hF3]
        simp [shps, Nat.min_eq_left (Nat.le_of_lt hi)]
    · rintro en S' ⟨⟨z1, z2, rfl⟩, hF, hl, ⟨refs', hR', hx'⟩, xs, h1, h2, h3⟩
      have ha' : S'[a]? = some (.lst ((t :: ts).map T.enc)) := hF.get ha hn
      simp at h2 hR' h3
      simp [ix_ref ha', at0]
      rw [hq t S' _ xs h1 (by omega)]
      simp
      refine ⟨hF, ⟨refs', by rw [need_same hsm]; exact hR', fun x hx => (hx' x hx).imp id fun h => h.imp id fun h => by omega⟩, fun F hF3 => ?_⟩
      rw [need_same hsm] at hF3
      rw [shp_same hsm, h3 F hF3]
end K71
namespace K71
open PySem Dn Pg
open L2 (atI ixN Key)
theorem pre_of {S S' : Sto} (h : ∀ i, i < S.length → S'[i]? = S[i]?) (hl : S.length ≤ S'.length) : S <+: S' := by
  rw [List.prefix_iff_eq_take]
  apply List.ext_getElem?
  intro i
  rw [List.getElem?_take]
  split
  · rename_i c; exact (h i c).symm
  · rename_i c; exact List.getElem?_eq_none_iff.mpr (by omega)
theorem Fr.pre {n : Nat} {S S1 S2 : Sto} (h : S <+: S1) (f : Fr n S1 S2) (hn : S.length ≤ n) : S <+: S2 := by
  obtain ⟨G, rfl⟩ := h
  refine pre_of (fun i hi => ?_) (by have := f.1; simp at this; omega)
  rw [f.2 i (by simp; omega) (by omega), List.getElem?_append_left hi]
theorem pre_set {S S1 : Sto} (h : S <+: S1) {n : Nat} (hn : S.length ≤ n) (y : MO) : S <+: S1.set n y :=
  Fr.pre h (⟨by simp, fun i _ hin => List.getElem?_set_ne (fun e => hin e.symm)⟩ : Fr n S1 (S1.set n y)) hn
theorem shp_gaps (ρ : List T → Str) : ∀ (t : T) (ts : List T), (shp ρ t ts).gaps = (need t ts).map ρ
  | .lf l, ts => by simp only [shp, need]; split <;> simp [T.gaps]
  | .gap g, ts => by simp [shp, need, T.gaps]
  | .one a, ts => by simp only [shp, need]; split <;> simp [T.gaps, shp_gaps ρ a]
  | .two o a b, ts => by simp only [shp, need]; split <;> simp [T.gaps, shp_gaps ρ a, shp_gaps ρ b]
  | .thr a b c, ts => by simp only [shp, need]; split <;> simp [T.gaps, shp_gaps ρ a, shp_gaps ρ b, shp_gaps ρ c]
theorem shp_nameless (ρ : List T → Str) : ∀ (t : T) (ts : List T), (shp ρ t ts).nameless = true
  | .lf l, ts => by
    simp only [shp]; split
    · rename_i h
      cases l <;> simp [sameH, T.sg, Lf.sg] at h <;> rfl
    · rfl
  | .gap g, ts => rfl
  | .one a, ts => by simp only [shp]; split <;> simp [T.nameless, shp_nameless ρ a]
  | .two o a b, ts => by simp only [shp]; split <;> simp [T.nameless, shp_nameless ρ a, shp_nameless ρ b]
  | .thr a b c, ts => by simp only [shp]; split <;> simp [T.nameless, shp_nameless ρ a, shp_nameless ρ b, shp_nameless ρ c]
def kd (r : List T) : Option Str := if r.all (fun t => decide (t.sg = .num)) = true then some (Str.ofString "number") else if r.all (fun t => !t.loud) = true then some (Str.ofString "quiet") else none
def kdV (r : List T) : PV := match kd r with
  | some k => .str k
  | none => .non
theorem len_ref {S : Sto} {a : Nat} {xs : List PV} (h : S[a]? = some (.lst xs)) : fLen [.ref a] S = .ok (.int xs.length) S := by simp [fLen, h]
theorem kind_for_ok {fq : Fn} (wf : Nat) (S : Sto) (a : Nat) (r : List T) (ha : S[a]? = some (.lst (r.map T.enc))) (hf : ∀ u ∈ r, u.fit) (hl : r.length < 1000)
    (hq : ∀ (u : T) S, u.fit → fq [u.enc, .non] S = .ok (.bl (!u.loud)) S) :
    RW (fnD 1 2 (b_reading_kind_for fq wf) [.ref a] S) fun v S' => v = kdV r ∧ S <+: S' := by
  refine rw_fn rfl ?_
  simp [b_reading_kind_for]
  rw [eLc_ref (a := a) r T.enc (fun u => !decide (u.sg = .num)) T.enc ha (by simp) (by omega) (fun u hu acc => ⟨_, r_gN .., by simp [wipeP, gN], fun _ => by simp [wipeP, gN]⟩)]
  have e1 : (r.filter (fun u => !decide (u.sg = .num))).length = 0 ↔ r.all (fun t => decide (t.sg = .num)) = true := by
    rw [List.length_eq_zero_iff, List.filter_eq_nil_iff, List.all_eq_true]
    simp
  simp only [RW.ok]
  rw [len_ref (xs := (r.filter (fun u => !decide (u.sg = .num))).map T.enc) (by simp)]
  simp only [RW.ok, v_eqI]
  by_cases c : r.all (fun t => decide (t.sg = .num)) = true
  · have e2 := e1.mpr c
    simp only [List.length_map, e2]
    simp [kdV, kd, c]
  · have e2 : ¬ ((r.filter (fun u => !decide (u.sg = .num))).map T.enc).length = 0 := by rw [List.length_map]; exact fun h => c (e1.mp h)
    have e3 : ¬ ((((r.filter (fun u => !decide (u.sg = .num))).map T.enc).length : Int) = ((0 : Nat) : Int)) := by omega
    rw [if_neg (by simpa using e3)]
    have ha2 : (S ++ [MO.lst ((r.filter (fun u => !decide (u.sg = .num))).map T.enc)])[a]? = some (.lst (r.map T.enc)) := pre_get (List.prefix_append _ _) ha
    rw [eLc_ref (a := a) r T.enc (fun u => u.loud) T.enc ha2 (by simp) (by omega) (fun u hu acc => ⟨_, r_gN .., by simp [wipeP, gN, hq _ _ (hf u hu)], fun _ => by simp [wipeP, gN]⟩)]
    have e4 : (r.filter (fun u => u.loud)).length = 0 ↔ r.all (fun t => !t.loud) = true := by
      rw [List.length_eq_zero_iff, List.filter_eq_nil_iff, List.all_eq_true]
      simp
    simp only [RW.ok]
    rw [len_ref (xs := (r.filter (fun u => u.loud)).map T.enc) (by simp)]
    simp only [RW.ok, v_eqI]
    have hpre : S <+: S ++ [MO.lst ((r.filter (fun u => !decide (u.sg = .num))).map T.enc)] ++ [MO.lst ((r.filter (fun u => u.loud)).map T.enc)] := (List.prefix_append _ _).trans (List.prefix_append _ _)
    by_cases c2 : r.all (fun t => !t.loud) = true
    · have e2 := e4.mpr c2
      simp only [List.length_map, e2]
      refine ⟨?_, hpre⟩
      simp only [kdV, kd, if_neg c, if_pos c2]
    · have e5 : ¬ ((((r.filter (fun u => u.loud)).map T.enc).length : Int) = ((0 : Nat) : Int)) := by
        rw [List.length_map]
        exact fun h => c2 (e4.mp (by omega))
      rw [if_neg (by simpa using e5)]
      refine ⟨?_, hpre⟩
      simp only [kdV, kd, if_neg c, if_neg c2]
def pairE (p : T × T) : PV := .tup [p.1.enc, p.2.enc]
theorem look_ok {fl : Fn} (wf : Nat) (S : Sto) (p : Nat) (prs : List (T × T)) (hp : S[p]? = some (.lst (prs.map pairE))) (h0 : prs ≠ []) (h8 : prs.length ≤ 8) (hd : ∀ q ∈ prs, q.1.deep ≤ 20 ∧ q.2.deep ≤ 20) (hl : ∀ (u : T) S, u.deep ≤ 20 → fl [u.enc] S = .ok (.bl false) S) :
    RW (fnD 1 3 (b_reading_look_at_pairs fl wf) [.ref p] S) fun v S' => v = .non ∧ S' = S := by
  refine rw_fn rfl ?_
  have hn : ¬ (prs.length : Int) = 0 := by
    cases prs with
    | nil => exact absurd rfl h0
    | cons a b => simp; omega
  have h8' : ¬ (8 : Int) < prs.length := by omega
  simp [b_reading_look_at_pairs, len_ref hp, h0, fGt, h8']
  refine ow_for (prs.map pairE) (fun i en S' => (∃ z1 z2, en = [some (.ref p), z1, z2]) ∧ S' = S) (P0 := fLstP p (prs.map pairE).length) (S1 := S) ?_ rfl ⟨⟨_, _, rfl⟩, rfl⟩ ?_ ?_ ?_
  · simp [v_iter_lst p _ S hp]
  · rintro i en S' _ ⟨_, rfl⟩
    exact fLst_it _ _ _ _ hp
  · rintro i x en S' hx ⟨⟨z1, z2, rfl⟩, rfl⟩
    rw [List.getElem?_map] at hx
    cases q : prs[i]? with
    | none => rw [q] at hx; cases hx
    | some u =>
      rw [q] at hx
      cases hx
      have hu := hd u (List.mem_of_getElem? q)
      exact ⟨_, by simp [pairE]; rfl, by simp [hl _ _ hu.1, hl _ _ hu.2]⟩
  · rintro en S' ⟨⟨z1, z2, rfl⟩, rfl⟩
    simp
end K71
namespace K71
open PySem Dn Pg
open L2 (atI ixN Key)
@[simp] theorem o_put {a b c : DE} {en : En} {S : Sto} {N : En → Sto → Prop} {R : PV → Sto → Prop} : OW (sPut a b c en S) N R = RW (c en S) fun x S1 => RW (a en S1) fun o S2 => RW (b en S2) fun i S3 => ∃ S4, fPut o i x S3 = some S4 ∧ N en S4 := by
  unfold sPut
  rw [o_out]
  congr
  funext x S1
  rw [o_out]
  congr
  funext o S2
  rw [o_out]
  congr
  funext i S3
  cases h : fPut o i x S3 with
  | none =>
    refine propext ⟨fun h => ?_, fun ⟨_, h, _⟩ => by cases h⟩
    rcases h with ⟨_, _, e, _⟩ | ⟨_, _, e, _⟩ <;> cases e
  | some S4 =>
    simp
def gi (F : List (List T)) (g : Str) : Nat := ((List.range F.length).map nm).idxOf g
theorem gi_nm {F : List (List T)} (h : F.length ≤ 64) {j : Nat} (hj : j < F.length) : gi F (nm j) = j := by
  unfold gi
  have hm : nm j ∈ (List.range F.length).map nm := List.mem_map.mpr ⟨j, List.mem_range.mpr hj, rfl⟩
  have hl := List.idxOf_lt_length_of_mem hm
  have hg := List.getElem_idxOf hl
  simp at hl
  rw [List.getElem_map, List.getElem_range] at hg
  exact nm_inj _ (by omega) _ (by omega) hg
def kval (F : List (List T)) (g : Str) : Str := (kd ((F[gi F g]?).getD [])).getD ⟨#[]⟩
def KN (F : List (List T)) (i : Nat) : List Str := ((List.range i).filter fun j => (kd ((F[j]?).getD [])).isSome).map nm
theorem mem_KN {F : List (List T)} {i : Nat} {g : Str} : g ∈ KN F i ↔ ∃ j < i, (kd ((F[j]?).getD [])).isSome = true ∧ nm j = g := by
  unfold KN
  rw [List.mem_map]
  constructor
  · rintro ⟨j, hj, rfl⟩
    rw [List.mem_filter, List.mem_range] at hj
    exact ⟨j, hj.1, hj.2, rfl⟩
  · rintro ⟨j, hj, h2, rfl⟩
    exact ⟨j, List.mem_filter.mpr ⟨List.mem_range.mpr hj, h2⟩, rfl⟩
theorem KN_succ (F : List (List T)) (i : Nat) : KN F (i + 1) = KN F i ++ if (kd ((F[i]?).getD [])).isSome = true then [nm i] else [] := by
  unfold KN
  rw [List.range_succ, List.filter_append, List.map_append]
  congr 1
  by_cases c : (kd ((F[i]?).getD [])).isSome = true
  · simp [c]
  · simp [c]
theorem KN_len (F : List (List T)) (i : Nat) : (KN F i).length ≤ i := by
  unfold KN
  rw [List.length_map]
  refine Nat.le_trans (List.length_filter_le _ _) (by simp)
def ksOf (F : List (List T)) : List (Str × Str) := (sortStrs (KN F F.length)).map fun g => (g, kval F g)
theorem mem_sort {g : Str} {gs : List Str} : g ∈ sortStrs gs ↔ g ∈ gs := by unfold sortStrs; exact List.mem_mergeSort
def ruleE (F : List (List T)) (l : T) (ls : List T) (r : T) (rs : List T) : PV := .tup [(shp (nmR F) l ls).enc, (shp (nmR F) r rs).enc, .tup ((ksOf F).map kindE)]
theorem eLc_any {α : Type} {m : DP} {g : Tg} {tt : DT} {te : DE} {S S0 : Sto} {en : En} {a : Nat} (xs : List α) (e : α → PV) (p : α → Bool) (q : α → PV) (ha : S0[a]? = some (.lst (xs.map e)))
    (hm : m en S = .ok (fLstP a (xs.map e).length) S0) (hl : xs.length < 10000)
    (hst : ∀ x ∈ xs, ∀ acc, ∃ en1, g.f (e x) (wipeP en g.sl) = some en1 ∧ tt en1 (S0 ++ [.lst acc]) = .ok (p x) (S0 ++ [.lst acc]) ∧ (p x = true → te en1 (S0 ++ [.lst acc]) = .ok (q x) (S0 ++ [.lst acc]))) :
    eLc m g tt te en S = .ok (.ref S0.length) (S0 ++ [.lst ((xs.filter p).map q)]) := by
  unfold eLc
  rw [hm]
  show lcRun (fLstP a (xs.map e).length).it g tt te S0.length ((xs.map e).length + 1) 0 (wipeP en g.sl) (S0 ++ [.lst []]) = _
  rw [List.length_map, lcRun_map _ g tt te S0 _ xs e p q hl (fun i acc => by
    have := fLst_it a (xs.map e) i _ (pre_get (List.prefix_append S0 [.lst acc]) ha)
    rw [List.length_map] at this
    exact this) hst xs.length 0 [] (by omega) (Nat.le_refl _)]
  simp
theorem keysOf_dc (v : Str → PV) : ∀ gs : List Str, keysOf (dc v gs) = some gs
  | [] => rfl
  | g :: gs => by
    have ih := keysOf_dc v gs
    unfold dc at ih ⊢
    simp [keysOf, ih]
theorem ix_dic {S : Sto} {d : Nat} {v : Str → PV} {gs : List Str} (h : S[d]? = some (.dic (dc v gs))) {g : Str} (hg : g ∈ gs) : fIx (.ref d) (.str g) S = .ok (v g) S := by
  unfold fIx
  simp only [h, pvKey, dGet_dc, if_pos hg]
  rfl
def enumL (refs : List Nat) : List PV := refs.zipIdx.map fun x => .pr [.int (x.2 : Nat), .ref x.1]
theorem enum_get (refs : List Nat) (i : Nat) : (enumL refs)[i]? = refs[i]?.map fun a => .pr [.int (i : Nat), .ref a] := by
  unfold enumL
  rw [List.getElem?_map, List.getElem?_zipIdx]
  cases refs[i]? <;> simp
def FoF (l : T) (ls : List T) (r : T) (rs : List T) : List (List T) := addR (addR [] (need l ls)) (need r rs)
theorem read_off_ok {fw fk fl fs fo : Fn} (wf : Nat) (S : Sto) (p : Nat) (prs : List (T × T)) (l : T) (ls : List T) (r : T) (rs : List T)
    (hp : S[p]? = some (.lst (prs.map pairE))) (h8 : prs.length ≤ 8) (hL : prs.map (·.1) = l :: ls) (hR : prs.map (·.2) = r :: rs)
    (hfl : ∀ u ∈ l :: ls, u.fit) (hfr : ∀ u ∈ r :: rs, u.fit) (hlv : (need l ls).length + (need r rs).length ≤ 60)
    (hw : ∀ S (n : Nat), n < 64 → fw [.int (n : Int)] S = .ok (.str (wd n)) S)
    (hk : ∀ S a (r : List T), S[a]? = some (.lst (r.map T.enc)) → (∀ u ∈ r, u.fit) → r.length < 1000 → RW (fk [.ref a] S) fun v S' => v = kdV r ∧ S <+: S')
    (hl : ∀ S p, S[p]? = some (.lst (prs.map pairE)) → RW (fl [.ref p] S) fun v S' => v = .non ∧ S' = S)
    (hs : ShapeOk fs 20) (ho : ∀ S, RW (fo [ruleE (FoF l ls r rs) l ls r rs] S) fun v S' => v = .non ∧ S <+: S')
    (hsz : ∀ r' ∈ FoF l ls r rs, r'.length < 1000) :
    RW (fnD 1 10 (b_reading_read_off fw fk fl fs fo wf) [.ref p] S) fun v S' => v = ruleE (FoF l ls r rs) l ls r rs ∧ S <+: S' := by
  have hls : (l :: ls).length = prs.length := by rw [← hL]; simp
  have hrs : (r :: rs).length = prs.length := by rw [← hR]; simp
  refine rw_fn rfl ?_
  simp [b_reading_read_off]
  refine (hl S p hp).mono ?_
  rintro _ S1 ⟨rfl, rfl⟩
  rw [eLc_ref (a := p) prs pairE (fun _ => true) (fun u => u.1.enc) (pre_get (List.prefix_append _ _) hp) (by simp) (by omega) (fun u hu acc => ⟨_, r_gN .., rfl, fun _ => by simp [wipeP, gN, pairE]⟩), filter_yes]
  have e1 : prs.map (fun u => u.1.enc) = (l :: ls).map T.enc := by rw [← hL]; simp [Function.comp_def]
  have e2 : prs.map (fun u => u.2.enc) = (r :: rs).map T.enc := by rw [← hR]; simp [Function.comp_def]
  rw [e1]
  simp only [RW.ok, r_bindW, List.length_append, List.length_singleton]
  have d1 := (hfl l List.mem_cons_self).1.2
  have d2 := (hfr r List.mem_cons_self).1.2
  refine (hs l ls (S1 ++ [MO.lst []] ++ [.lst ((l :: ls).map T.enc)]) (S1.length + 1) S1.length [] [] d1 (by simp) (by omega) ⟨by simp, rfl, fun i r a h => by simp at h⟩ (by simp) hfl (by simp at hls; omega) (by simp; omega)).mono ?_
  rintro v1 S2 ⟨f1, ⟨refs1, r1, x1⟩, w1⟩
  have p1 : S1 <+: S2 := Fr.pre ((List.prefix_append _ _).trans (List.prefix_append _ _)) f1 (Nat.le_refl _)
  rw [eLc_ref (a := p) prs pairE (fun _ => true) (fun u => u.2.enc) (pre_get p1 hp) (by simp) (by omega) (fun u hu acc => ⟨_, r_gN .., rfl, fun _ => by simp [wipeP, gN, pairE]⟩), filter_yes]
  rw [e2]
  simp only [RW.ok, r_bindW]
  have l2 := addR_len (need l ls) []
  simp at l2
  have s2 := f1.1
  simp at s2
  refine (hs r rs (S2 ++ [.lst ((r :: rs).map T.enc)]) S2.length S1.length _ refs1 d2 (by simp) (by omega) (r1.pre (List.prefix_append _ _)) (fun q hq u hu => by
    rcases mem_addR.mp hq with h | h
    · cases h
    · exact (need_fit l ls hfl q h u hu).1) hfr (by simp at hrs; omega) (by omega)).mono ?_
  rintro v2 S3 ⟨f2, ⟨refs2, r2, x2⟩, w2⟩
  have p2 : S1 <+: S3 := Fr.pre (p1.trans (List.prefix_append _ _)) f2 (Nat.le_refl _)
  have s3 := f2.1
  simp at s3
  have hFF : addR (addR [] (need l ls)) (need r rs) = FoF l ls r rs := rfl
  have hpre : addR [] (need l ls) <+: FoF l ls r rs := addR_pre _ _
  rw [w1 _ hpre, w2 _ (by rw [hFF]; exact List.prefix_rfl)]
  rw [hFF] at r2
  have hF64 : (FoF l ls r rs).length ≤ 60 := by
    have := addR_len (need r rs) (addR [] (need l ls))
    rw [hFF] at this
    omega
  generalize hFe : FoF l ls r rs = F at *
  have hfit : ∀ q ∈ F, ∀ u ∈ q, u.fit := by
    intro q hq
    rw [← hFe] at hq
    rcases mem_addR.mp hq with h | h
    · rcases mem_addR.mp h with h | h
      · cases h
      · exact need_fit l ls hfl q h
    · exact need_fit r rs hfr q h
  refine ow_for (enumL refs2) (fun i en S' => (∃ z3 z6 z7 z8 z9, en = [some (.ref p), some (.ref S1.length), some (shp (nmR F) l ls).enc, z3, some (shp (nmR F) r rs).enc, some (.ref S3.length), z6, z7, z8, z9]) ∧ S1 <+: S' ∧ Rows S' S1.length F refs2 ∧
    S'[S3.length]? = some (.dic (dc (fun g => .str (kval F g)) (KN F i)))) (P0 := fEnumP S1.length refs2.length) (S1 := S3 ++ [.dic []]) ?_ (by simp [fEnumP, enumL]) ?_ ?_ ?_ ?_
  · have := (r2.pre (S' := S3 ++ [.dic []]) (List.prefix_append _ _)).at_
    simp [fEnum, this]
  · exact ⟨⟨_, _, _, _, _, rfl⟩, p2.trans (List.prefix_append _ _), r2.pre (List.prefix_append _ _), by simp [KN, dc]⟩
  · rintro i en S' _ ⟨_, _, hr, _⟩
    simp only [fEnumP, lstAt, hr.at_, enum_get, Option.map_some]
    rw [List.getElem?_map]
    cases refs2[i]? <;> rfl
  · rintro i x en S' hx ⟨⟨z3, z6, z7, z8, z9, rfl⟩, hpS, hr, hd⟩
    rw [enum_get] at hx
    cases q : refs2[i]? with
    | none => rw [q] at hx; cases hx
    | some a =>
      rw [q] at hx
      cases hx
      have hi : i < F.length := by rw [← hr.len]; exact (List.getElem?_eq_some_iff.mp q).1
      have hrow := hr.row i F[i] a (List.getElem?_eq_getElem hi) q
      have hFm : F[i] ∈ F := List.getElem_mem hi
      refine ⟨_, by simp; rfl, ?_⟩
      simp
      refine (hk S' a F[i] hrow.2 (hfit _ hFm) (hsz _ hFm)).mono ?_
      rintro _ S4 ⟨rfl, g1⟩
      have hg : (F[i]?).getD [] = F[i] := by rw [List.getElem?_eq_getElem hi]; rfl
      cases hkd : kd F[i] with
      | none =>
        simp [kdV, hkd, isNon]
        refine ⟨hpS.trans g1, hr.pre g1, ?_⟩
        rw [KN_succ, hg, hkd]
        simpa using pre_get g1 hd
      | some k =>
        simp [kdV, hkd, isNon]
        refine (hk S4 a F[i] (pre_get g1 hrow.2) (hfit _ hFm) (hsz _ hFm)).mono ?_
        rintro _ S5 ⟨rfl, g2⟩
        have hd5 := pre_get g2 (pre_get g1 hd)
        have hnot : nm i ∉ KN F i := by
          intro hm
          obtain ⟨j, hj, _, e⟩ := mem_KN.mp hm
          have := nm_inj j (by omega) i (by omega) e
          omega
        have hkv : kval F (nm i) = k := by
          unfold kval
          rw [gi_nm (by omega) hi, hg, hkd]
          rfl
        have hklen : (KN F i).length < 16777216 := by have := KN_len F i; omega
        simp [hw _ _ (show i < 64 by omega), add_name, kdV, hkd]
        have hput := dPut_dc (fun g => .str (kval F g)) (nm i) (KN F i) hnot
        simp only [hkv] at hput
        refine ⟨S5.set S3.length (.dic (dc (fun g => .str (kval F g)) (KN F i ++ [nm i]))), ?_, ?_, ?_, ?_⟩
        · simp [fPut, hd5, pvKey, dc_len, hklen, hput]
        · exact pre_set (hpS.trans (g1.trans g2)) p2.length_le _
        · exact (hr.pre (g1.trans g2)).set (by omega) (fun x hx => by have := r2.lt x hx; omega) _
        · rw [List.getElem?_set_self (List.getElem?_eq_some_iff.mp hd5).1, KN_succ, hg, hkd]
          rfl
  · rintro en S' ⟨⟨z3, z6, z7, z8, z9, rfl⟩, hpS, hr, hd⟩
    have hel : (enumL refs2).length = F.length := by rw [enumL, List.length_map, List.length_zipIdx]; exact hr.len
    rw [hel] at hd
    have hkl : (KN F F.length).length < 64 := by have := KN_len F F.length; omega
    simp
    have hso : fSorted [.ref S3.length] S' = .ok (.ref S'.length) (S' ++ [.lst ((sortStrs (KN F F.length)).map .str)]) := by
      simp [fSorted, hd, keysOf_dc, hkl]
    have hsl : (sortStrs (KN F F.length)).length = (KN F F.length).length := by unfold sortStrs; exact List.length_mergeSort _
    have hd2 : (S' ++ [MO.lst ((sortStrs (KN F F.length)).map .str)])[S3.length]? = some (.dic (dc (fun g => .str (kval F g)) (KN F F.length))) := pre_get (List.prefix_append _ _) hd
    rw [eLc_any (a := S'.length) (S0 := S' ++ [MO.lst ((sortStrs (KN F F.length)).map .str)]) (sortStrs (KN F F.length)) PV.str (fun _ => true) (fun g => kindE (g, kval F g)) (get_end _ _) (by
      have hit := v_iter_lst S'.length ((sortStrs (KN F F.length)).map PV.str) _ (get_end S' _)
      simp only [List.length_map] at hit ⊢
      simp [hso, hit]) (by omega) (fun g hg acc => ⟨_, r_gN .., rfl, fun _ => by
      have h1 := ix_dic (pre_get (List.prefix_append _ [MO.lst acc]) hd2) (mem_sort.mp hg)
      simp at h1
      simp [wipeP, gN, h1, kindE]⟩), filter_yes]
    simp [fTuple, lstAt]
    have hks : List.map (fun g => kindE (g, kval F g)) (sortStrs (KN F F.length)) = (ksOf F).map kindE := by simp [ksOf, Function.comp_def]
    rw [hks]
    refine (ho _).mono ?_
    rintro _ S6 ⟨rfl, h6⟩
    exact ⟨rfl, hpS.trans ((List.prefix_append _ _).trans h6)⟩
end K71
namespace K71
open PySem Dn Pg
open L2 (atI ixN Key)
def T.fill (θ : Str → T) : T → T
  | .lf l => .lf l
  | .gap g => θ g
  | .one a => .one (a.fill θ)
  | .two o a b => .two o (a.fill θ) (b.fill θ)
  | .thr a b c => .thr (a.fill θ) (b.fill θ) (c.fill θ)
@[simp] theorem isi_tree (t : T) (S : Sto) : fIsi [t.enc, .ty "tuple"] S = .ok (.bl true) S := by
  have e : tyName t.enc S = some "tuple" := by cases t <;> rfl
  unfold fIsi
  simp only [e]
  rfl
@[simp] theorem isi_str (x : Str) (S : Sto) : fIsi [.str x, .ty "tuple"] S = .ok (.bl false) S := rfl
@[simp] theorem isi_int (x : Int) (S : Sto) : fIsi [.int x, .ty "tuple"] S = .ok (.bl false) S := rfl
theorem zip_get (xs ys : List PV) (i : Nat) : zipAt xs ys i = (List.zipWith (fun x y => PV.pr [x, y]) xs ys)[i]? := by
  unfold zipAt
  rw [List.getElem?_zipWith]
  cases xs[i]? <;> cases ys[i]? <;> rfl
theorem for_zip (xs ys : List PV) (hl : xs.length = ys.length) (g : Tg) (body : DS) (en : En) (S : Sto) : forRun (fun i _ => some (zipAt xs ys i)) g body (xs.length + 1) 0 en S = forL g body (List.zipWith (fun x y => PV.pr [x, y]) xs ys) en S := by
  have := for_from (fun i _ => some (zipAt xs ys i)) g body (List.zipWith (fun x y => PV.pr [x, y]) xs ys) 0 en S (fun j S' => by simp [zip_get])
  rw [← this]
  simp [hl]
section
variable {en : En} {S : Sto} {N : En → Sto → Prop} {R : PV → Sto → Prop} {b : DS} {g : Tg}
theorem ow_forL {x : PV} {xs : List PV} {en1 : En} (hg : g.f x en = some en1) (h : OW (b en1 S) (fun en S => OW (forL g b xs en S) N R) R) : OW (forL g b (x :: xs) en S) N R := by
  rw [r_forL1, hg]
  rcases h with ⟨en2, S2, e, q⟩ | ⟨v, S2, e, q⟩
  · simp only [e]; exact q
  · simp only [e]; exact .inr ⟨_, _, rfl, q⟩
theorem ow_zip {p : DP} {xs ys : List PV} {S1 : Sto} (hp : p en S = .ok ⟨xs.length, fun i _ => some (zipAt xs ys i)⟩ S1) (hl : xs.length = ys.length) (h : OW (forL g b (List.zipWith (fun x y => PV.pr [x, y]) xs ys) en S1) N R) : OW (sFor p g b en S) N R := by
  rw [r_sForT, hp]
  show OW (forRun (fun i _ => some (zipAt xs ys i)) g b (xs.length + 1) 0 en S1) N R
  rw [for_zip xs ys hl]
  exact h
theorem ow_tup {p : DP} {xs : List PV} {S1 : Sto} (hp : p en S = .ok (fTupP xs) S1) (h : OW (forL g b xs en S1) N R) : OW (sFor p g b en S) N R := by
  rw [r_sForT, hp]
  show OW (forRun (fTupP xs).it g b ((fTupP xs).n + 1) 0 en S1) N R
  rw [for_tup]
  exact h
end
def vE (θ : Str → T) : Str → PV := fun g => (θ g).enc
/-- a tree's own things behind its sign -/
def T.args : T → List PV
  | .lf l => [l.val]
  | .gap g => [.str g, .tup []]
  | .one a => [a.enc]
  | .two _ a b => [a.enc, b.enc]
  | .thr a b c => [a.enc, b.enc, c.enc]
theorem enc_args (t : T) : t.enc = .tup (.str t.sg.str :: t.args) := by cases t <;> rfl
@[simp] theorem cut1 (t : T) (S : Sto) : fCut t.enc (some 1) none S = .ok (.tup t.args) S := by
  rw [enc_args]
  simp [fCut, cutP, HT.sIx]
@[simp] theorem len_enc (t : T) (S : Sto) : fLen [t.enc] S = .ok (.int (t.args.length + 1 : Nat)) S := by
  rw [enc_args]
  rfl
def FitOk (f : Fn) (D : Nat) : Prop := ∀ (s : T) (S : Sto) (n : Nat) (gs : List Str) (θ : Str → T), s.deep ≤ D → S[n]? = some (.dic (dc (vE θ) gs)) → (∀ g ∈ s.gaps, (θ g).ok) → gs.length + s.gaps.length < 5000 →
  RW (f [s.enc, (s.fill θ).enc, .ref n] S) fun v S' => v = .bl true ∧ S' = S.set n (.dic (dc (vE θ) (ddI gs s.gaps)))
theorem fit_ok {f : Fn} (wf : Nat) (D : Nat) (hf : FitOk f D) : FitOk (fnD 3 5 (b_q_law_fit f wf)) (D + 1) := by
  intro s S n gs θ hD hn hok hl
  refine rw_fn rfl ?_
  cases s with
  | gap g =>
    have hg : (θ g).ok := hok g (by simp [T.gaps])
    have hgl : gs.length < 16777216 := by omega
    simp [b_q_law_fit, T.sg, T.fill, T.gaps, ddI_one]
    by_cases c : g ∈ gs
    · simp [fNotIn, fIn, hn, pvKey, dGet_dc, c, rNot, ix_dic hn c, vE, eq_trees _ _ _ hg hg]
      rw [set_same hn]
    · have e : (S.set n (.dic (dc (vE θ) (gs ++ [g]))))[n]? = some (.dic (dc (vE θ) (gs ++ [g]))) := List.getElem?_set_self (List.getElem?_eq_some_iff.mp hn).1
      have hput := dPut_dc (vE θ) g gs c
      simp only [vE] at hput
      simp [fNotIn, fIn, hn, pvKey, dGet_dc, c, rNot, fPut, dc_len, hgl]
      rw [hput]
      simp [ix_dic e (show g ∈ gs ++ [g] by simp)]
      show RW (fEq (θ g).enc (θ g).enc _) _
      rw [eq_trees _ _ _ hg hg]
      simp
  | lf l =>
    simp [b_q_law_fit, T.sg, T.fill, T.gaps]
    have hne : (l.sg = .gap) = False := by cases l <;> simp [Lf.sg]
    simp [hne]
    refine ow_zip (S1 := S) (xs := (T.lf l).args) (ys := (T.lf l).args) (by simp [fZip]) rfl ?_
    simp [T.args]
    refine ow_forL (by simp; rfl) ?_
    cases l <;> simp [Lf.val, ddI, set_same hn]
  | one a =>
    simp [T.deep] at hD
    simp [T.gaps] at hok hl
    simp [b_q_law_fit, T.sg, T.fill, T.gaps, T.args]
    refine ow_zip (S1 := S) (xs := [a.enc]) (ys := [(a.fill θ).enc]) (by simp [fZip, T.args]) rfl ?_
    refine ow_forL (by simp; rfl) ?_
    simp
    refine (hf a S n gs θ (by omega) hn hok hl).mono ?_
    rintro _ S1 ⟨rfl, rfl⟩
    simp
  | two o a b =>
    simp [T.deep] at hD
    simp [T.gaps] at hok hl
    have hn1 : n < S.length := (List.getElem?_eq_some_iff.mp hn).1
    simp [b_q_law_fit, T.sg, T.fill, T.gaps, T.args]
    refine ow_zip (S1 := S) (xs := [a.enc, b.enc]) (ys := [(a.fill θ).enc, (b.fill θ).enc]) (by simp [fZip, T.args]) rfl ?_
    refine ow_forL (by simp; rfl) ?_
    simp
    refine (hf a S n gs θ (by omega) hn (fun g h => hok g (.inl h)) (by omega)).mono ?_
    rintro _ S1 ⟨rfl, rfl⟩
    simp
    refine ow_forL (by simp; rfl) ?_
    simp
    have l1 := ddI_len a.gaps gs
    refine (hf b _ n _ θ (by omega) (List.getElem?_set_self hn1) (fun g h => hok g (.inr h)) (by omega)).mono ?_
    rintro _ S1 ⟨rfl, rfl⟩
    simp [ddI_app]
  | thr a b c =>
    simp [T.deep] at hD
    simp [T.gaps] at hok hl
    have hn1 : n < S.length := (List.getElem?_eq_some_iff.mp hn).1
    simp [b_q_law_fit, T.sg, T.fill, T.gaps, T.args]
    refine ow_zip (S1 := S) (xs := [a.enc, b.enc, c.enc]) (ys := [(a.fill θ).enc, (b.fill θ).enc, (c.fill θ).enc]) (by simp [fZip, T.args]) rfl ?_
    refine ow_forL (by simp; rfl) ?_
    simp
    refine (hf a S n gs θ (by omega) hn (fun g h => hok g (.inl h)) (by omega)).mono ?_
    rintro _ S1 ⟨rfl, rfl⟩
    simp
    refine ow_forL (by simp; rfl) ?_
    simp
    have l1 := ddI_len a.gaps gs
    have l2 := ddI_len b.gaps (ddI gs a.gaps)
    refine (hf b _ n _ θ (by omega) (List.getElem?_set_self hn1) (fun g h => hok g (.inr (.inl h))) (by omega)).mono ?_
    rintro _ S1 ⟨rfl, rfl⟩
    simp
    refine ow_forL (by simp; rfl) ?_
    simp
    refine (hf c _ n _ θ (by omega) (List.getElem?_set_self hn1) (fun g h => hok g (.inr (.inr h))) (by omega)).mono ?_
    rintro _ S1 ⟨rfl, rfl⟩
    simp [ddI_app]
theorem law_loud_ok {f : Fn} (wf : Nat) (t : T) (S : Sto) (ht : t.plain = true) (hs : ∀ u ∈ t.parts, f [u.enc] S = .ok (.bl u.loud) S) : RW (fnD 1 2 (b_q_law_loud f wf) [t.enc] S) fun v S' => v = .bl t.loud ∧ S' = S := by
  refine rw_fn rfl ?_
  cases t with
  | gap g => cases ht
  | lf l =>
    have e : OW (forL (gN 1) (sIf (tAnd (tVal (eFn fIsi (aCons (eVar 1) (aCons (eC (.ty "tuple")) (aNil))))) (tVal (eFn f (aCons (eVar 1) (aNil))))) (sRet (eC (.bl true))) (sNil)) [l.val] [some (T.lf l).enc, none] S) (fun en S' => S' = S) (fun _ _ => False) := by
      refine ow_forL (r_gN ..) ?_
      cases l <;> simp [Lf.val]
    cases l with
    | num n => simp [b_q_law_loud, T.sg, Lf.sg, inFlat, flatP, T.loud]; exact ow_tup (S1 := S) (xs := (T.lf (.num n)).args) (by simp) (e.mono (fun _ _ h => by simpa using h) (fun _ _ h => h.elim))
    | name n => simp [b_q_law_loud, T.sg, Lf.sg, inFlat, flatP, T.loud]; exact ow_tup (S1 := S) (xs := (T.lf (.name n)).args) (by simp) (e.mono (fun _ _ h => by simpa using h) (fun _ _ h => h.elim))
    | ask n => simp [b_q_law_loud, T.sg, Lf.sg, inFlat, flatP, T.loud]
    | stop n => simp [b_q_law_loud, T.sg, Lf.sg, inFlat, flatP, T.loud]
  | one a => simp [b_q_law_loud, T.sg, inFlat, flatP, T.loud]
  | two o a b =>
    simp [T.parts] at hs
    simp [b_q_law_loud, T.sg, inFlat, flatP, T.loud]
    refine ow_tup (S1 := S) (xs := (T.two o a b).args) (by simp) ?_
    simp [T.args]
    refine ow_forL (r_gN ..) ?_
    cases ha : a.loud <;> simp [ha] at hs <;> simp [hs]
    refine ow_forL (r_gN ..) ?_
    cases hb : b.loud <;> simp [hb] at hs <;> simp [hs]
  | thr a b c =>
    simp [T.parts] at hs
    simp [b_q_law_loud, T.sg, inFlat, flatP, T.loud]
    refine ow_tup (S1 := S) (xs := (T.thr a b c).args) (by simp) ?_
    simp [T.args]
    refine ow_forL (r_gN ..) ?_
    cases ha : a.loud <;> simp [ha] at hs <;> simp [hs]
    refine ow_forL (r_gN ..) ?_
    cases hb : b.loud <;> simp [hb] at hs <;> simp [hs]
    refine ow_forL (r_gN ..) ?_
    cases hc : c.loud <;> simp [hc] at hs <;> simp [hs]
end K71
namespace K71
open PySem Dn Pg
open L2 (atI ixN Key)
def hdE : T → PV
  | .lf l => .tup [.str l.sg.str, l.val]
  | t => .tup [.str t.sg.str]
theorem law_head_ok (wf : Nat) (t : T) (S : Sto) (ht : t.plain = true) : fnD 1 1 (b_q_law_head wf) [t.enc] S = .ok (hdE t) S := by
  cases t with
  | gap g => cases ht
  | lf l => cases l <;> simp [fnD, rS, b_q_law_head, T.enc, Lf.val, hdE, fCut, cutP, HT.sIx]
  | one a => simp [fnD, rS, b_q_law_head, enc_args (.one a), T.args, hdE, fCut, cutP, HT.sIx, T.sg]
  | two o a b => simp [fnD, rS, b_q_law_head, enc_args (.two o a b), T.args, hdE, fCut, cutP, HT.sIx, T.sg]
  | thr a b c => simp [fnD, rS, b_q_law_head, enc_args (.thr a b c), T.args, hdE, fCut, cutP, HT.sIx, T.sg]
def hdD : T → PyData
  | .lf l => .tuple [.str l.sg.str, l.dat]
  | t => .tuple [.str t.sg.str]
theorem hd_data (S : Sto) (t : T) : data S 64 (hdE t) = some (hdD t) := by
  cases t with
  | lf l => cases l <;> simp [hdE, hdD, data, optAll, Lf.val, Lf.dat]
  | _ => simp [hdE, hdD, data, optAll]
theorem hd_shaped (t : T) (h : t.fine = true) : SeqAt.shaped (hdD t) = true := by
  cases t with
  | lf l => cases l <;> simp [T.fine, Lf.fine] at h <;> simp [hdD, SeqAt.shaped, Lf.dat, PyData.canLay0, PyData.canLayAll0, PyData.depth, PyData.depthAll, h]
  | _ => simp [hdD, SeqAt.shaped, PyData.canLay0, PyData.canLayAll0, PyData.depth, PyData.depthAll]
theorem hd_eqv (t u : T) (ht : t.plain = true) (hu : u.plain = true) : PyData.eqv (hdD t) (hdD u) = t.headEq u := by
  cases t with
  | gap g => cases ht
  | lf l => cases u with
    | gap g => cases hu
    | lf l2 => cases l <;> cases l2 <;> simp [hdD, Lf.dat, Lf.sg, q_tup, q_str, q_int, q_nil, q_cons, q_nc, q_cn, T.headEq]
    | _ => cases l <;> simp [hdD, Lf.dat, Lf.sg, q_tup, q_str, q_int, q_nil, q_cons, q_nc, q_cn, T.headEq, T.sg]
  | one a => cases u with
    | gap g => cases hu
    | lf l2 => cases l2 <;> simp [hdD, Lf.dat, Lf.sg, q_tup, q_str, q_int, q_nil, q_cons, q_nc, q_cn, T.headEq, T.sg]
    | _ => simp [hdD, Lf.dat, Lf.sg, q_tup, q_str, q_int, q_nil, q_cons, q_nc, q_cn, T.headEq, T.sg]
  | two o a b => cases u with
    | gap g => cases hu
    | lf l2 => cases l2 <;> simp [hdD, Lf.dat, Lf.sg, q_tup, q_str, q_int, q_nil, q_cons, q_nc, q_cn, T.headEq, T.sg]
    | _ => simp [hdD, Lf.dat, Lf.sg, q_tup, q_str, q_int, q_nil, q_cons, q_nc, q_cn, T.headEq, T.sg]
  | thr a b c => cases u with
    | gap g => cases hu
    | lf l2 => cases l2 <;> simp [hdD, Lf.dat, Lf.sg, q_tup, q_str, q_int, q_nil, q_cons, q_nc, q_cn, T.headEq, T.sg]
    | _ => simp [hdD, Lf.dat, Lf.sg, q_tup, q_str, q_int, q_nil, q_cons, q_nc, q_cn, T.headEq, T.sg]
theorem hd_ne (S : Sto) (t u : T) (ht : t.fit) (hu : u.fit) : fNe (hdE t) (hdE u) S = .ok (!t.headEq u) S := by
  have e : fEq (hdE t) (hdE u) S = fEqD (hdE t) (hdE u) S := by cases t <;> rfl
  unfold fNe
  rw [e]
  unfold fEqD
  rw [hd_data, hd_data]
  simp [hd_shaped t ht.1.1, hd_shaped u hu.1.1, hd_eqv t u ht.2 hu.2, rNot]
theorem eq_nil2 (S : Sto) (ts : List T) (ho : ∀ t ∈ ts, t.ok) : fEq (.ref S.length) (.ref (S ++ [MO.lst (ts.map T.enc)]).length) (S ++ [.lst (ts.map T.enc)] ++ [.lst []]) = .ok (decide (ts = [])) (S ++ [.lst (ts.map T.enc)] ++ [.lst []]) :=
  eq_nil _ _ _ ts (by simp) (by simp) ho
theorem pre2 (S : Sto) (x y : MO) : S <+: S ++ [x] ++ [y] := (List.prefix_append _ _).trans (List.prefix_append _ _)
theorem row_good_ok {fh fl : Fn} (wf : Nat) (S : Sto) (a : Nat) (t : T) (ts : List T) (ha : S[a]? = some (.lst ((t :: ts).map T.enc))) (hf : ∀ u ∈ t :: ts, u.fit) (hlen : ts.length < 1000) (hs : sameH t ts = false)
    (hh : ∀ (u : T) S, u.plain = true → fh [u.enc] S = .ok (hdE u) S) (hl : ∀ (u : T) S, u.fit → fl [u.enc] S = .ok (.bl u.loud) S) :
    RW (fnD 2 4 (b_q_law_row_good fh fl wf) [.ref a, .str ((kd (t :: ts)).getD ⟨#[]⟩)] S) fun v S' => v = .bl true ∧ S <+: S' := by
  have ht := hf t List.mem_cons_self
  have hok : ∀ u ∈ t :: ts, u.ok := fun u hu => (hf u hu).1
  refine rw_fn rfl ?_
  simp [b_q_law_row_good]
  have ev : ∀ (S' : Sto), S'[a]? = some (.lst ((t :: ts).map T.enc)) → fIx (.ref a) (.int 0) S' = .ok t.enc S' := by
    intro S' h
    rw [ix_ref h, at0]
    simp
  rw [eLc_ref (a := a) (t :: ts) T.enc (fun u => decide (u.sg = .name) || !u.headEq t) T.enc ha (by simp) (by simp; omega) (fun u hu acc => ⟨_, r_gN .., by
    have e := ev (S ++ [.lst acc]) (pre_get (List.prefix_append _ _) ha)
    have hu' := hf u hu
    by_cases c : u.sg = .name
    · simp [wipeP, gN, c]
    · simp [wipeP, gN, c, hh u _ hu'.2, e, hh t _ ht.2, hd_ne _ u t hu' ht], fun _ => by simp [wipeP, gN]⟩)]
  have hne : (t :: ts).filter (fun u => decide (u.sg = .name) || !u.headEq t) ≠ [] := by
    intro h
    rw [List.filter_eq_nil_iff] at h
    have h1 : (t :: ts).all (fun u => u.headEq t) = true := by
      rw [List.all_eq_true]
      intro u hu
      have := h u hu
      simp at this
      exact this.2
    have h2 := h t List.mem_cons_self
    simp at h2
    simp only [sameH, h1, Bool.true_and, Bool.not_eq_false'] at hs
    simp at hs
    exact h2.1 hs
  have hfo : ∀ (p : T → Bool), ∀ u ∈ (t :: ts).filter p, u.ok := fun p u hu => hok u (List.mem_filter.mp hu).1
  simp only [RW.ok]
  rw [eq_nil2 S _ (hfo _)]
  simp only [RW.ok, hne, decide_false, true_and]
  generalize hS1 : S ++ [MO.lst (List.map T.enc (List.filter (fun u => decide (u.sg = Sg.name) || !u.headEq t) (t :: ts)))] ++ [MO.lst []] = S1
  have p1 : S <+: S1 := by rw [← hS1]; exact pre2 _ _ _
  rw [eLc_ref (a := a) (t :: ts) T.enc (fun u => !decide (u.sg = .num)) T.enc (pre_get p1 ha) (by simp) (by simp; omega) (fun u hu acc => ⟨_, r_gN .., by simp [wipeP, gN], fun _ => by simp [wipeP, gN]⟩)]
  simp only [RW.ok]
  rw [eq_nil2 S1 _ (hfo _)]
  have e1 : (t :: ts).filter (fun u => !decide (u.sg = .num)) = [] ↔ (t :: ts).all (fun t => decide (t.sg = .num)) = true := by
    rw [List.filter_eq_nil_iff, List.all_eq_true]
    simp
  have e4 : (t :: ts).filter (fun u => u.loud) = [] ↔ (t :: ts).all (fun t => !t.loud) = true := by
    rw [List.filter_eq_nil_iff, List.all_eq_true]
    simp
  by_cases c : (t :: ts).all (fun t => decide (t.sg = .num)) = true
  · simp only [RW.ok, e1.mpr c, decide_true, if_true]
    exact ⟨by simp only [kd, if_pos c]; rfl, p1.trans (pre2 _ _ _)⟩
  · have c' : ¬ (t :: ts).filter (fun u => !decide (u.sg = .num)) = [] := fun h => c (e1.mp h)
    simp only [RW.ok, c', decide_false, Bool.false_eq_true, if_false]
    generalize hS2 : S1 ++ [MO.lst (List.map T.enc (List.filter (fun u => !decide (u.sg = .num)) (t :: ts)))] ++ [MO.lst []] = S2
    have p2 : S <+: S2 := by rw [← hS2]; exact p1.trans (pre2 _ _ _)
    rw [eLc_ref (a := a) (t :: ts) T.enc (fun u => u.loud) T.enc (pre_get p2 ha) (by simp) (by simp; omega) (fun u hu acc => ⟨_, r_gN .., by simp [wipeP, gN, hl u _ (hf u hu)], fun _ => by simp [wipeP, gN]⟩)]
    simp only [RW.ok]
    rw [eq_nil2 S2 _ (hfo _)]
    by_cases c2 : (t :: ts).all (fun t => !t.loud) = true
    · simp only [RW.ok, e4.mpr c2, decide_true, if_true]
      exact ⟨by simp only [kd, if_neg c, if_pos c2]; rfl, p2.trans (pre2 _ _ _)⟩
    · have c3 : ¬ (t :: ts).filter (fun u => u.loud) = [] := fun h => c2 (e4.mp h)
      simp only [RW.ok, c3, decide_false, Bool.false_eq_true, if_false]
      exact ⟨by simp only [kd, if_neg c, if_neg c2]; rfl, p2.trans (pre2 _ _ _)⟩
end K71
namespace K71
open PySem Dn Pg
open L2 (atI ixN Key)
structure Good (F : List (List T)) (m : Nat) : Prop where
  len : F.length ≤ 60
  m0 : 0 < m
  m1 : m < 100
  fit : ∀ q ∈ F, ∀ u ∈ q, u.fit
  nodup : F.Nodup
  inj : ∀ q ∈ F, ∀ q' ∈ F, q.take m = q'.take m → q = q'
  ge : ∀ q ∈ F, m ≤ q.length
  same : ∀ q ∈ F, ∃ t ts, q.take m = t :: ts ∧ sameH t ts = false
  kd : ∀ q ∈ F, kd (q.take m) = kd q
def th (F : List (List T)) (k : Nat) (g : Str) : T := (((F[gi F g]?).getD [])[k]?).getD (.gap ⟨#[]⟩)
def rowOf (F : List (List T)) (m : Nat) (g : Str) : List T := (List.range m).map fun k => th F k g
theorem rowOf_nm {F : List (List T)} {m : Nat} (h : Good F m) {j : Nat} (hj : j < F.length) : rowOf F m (nm j) = F[j].take m := by
  have hl := h.len
  have hge := h.ge F[j] (List.getElem_mem hj)
  apply List.ext_getElem?
  intro k
  unfold rowOf th
  rw [gi_nm (by omega) hj, List.getElem?_map, List.getElem?_take]
  by_cases c : k < m
  · rw [List.getElem?_range c, if_pos c, List.getElem?_eq_getElem hj, List.getElem?_eq_getElem (show k < F[j].length by omega)]
    simp
    rw [List.getElem?_eq_getElem (show k < F[j].length by omega)]
    rfl
  · rw [show (List.range m)[k]? = none from List.getElem?_eq_none_iff.mpr (by rw [List.length_range]; omega), if_neg c]
    rfl
theorem dMerge_dc (v : Str → PV) : ∀ (gs acc : List Str), (acc ++ gs).Nodup → dMerge (dc v acc) (dc v gs) = dc v (acc ++ gs)
  | [], acc, _ => by simp [dMerge, dc]
  | g :: gs, acc, h => by
    have h1 : g ∉ acc := by
      intro hm
      rw [List.nodup_append] at h
      exact h.2.2 g hm g List.mem_cons_self rfl
    have ih := dMerge_dc v gs (acc ++ [g]) (by simpa using h)
    have e : dMerge (dc v acc) (dc v (g :: gs)) = dMerge (dPut (dc v acc) (.inr g) (v g)) (dc v gs) := rfl
    rw [e, dPut_dc v g acc h1, ih]
    simp
theorem pairsOf_kinds : ∀ ks : List (Str × Str), pairsOf (ks.map kindE) = some (ks.map fun k => ((.inr k.1 : Key), PV.str k.2))
  | [] => rfl
  | k :: ks => by simp [pairsOf, kindE, pvKey, pairsOf_kinds ks]
theorem nodup_map {α β : Type} (f : α → β) : ∀ (l : List α), (∀ a ∈ l, ∀ b ∈ l, f a = f b → a = b) → l.Nodup → (l.map f).Nodup
  | [], _, _ => List.nodup_nil
  | a :: l, h, hl => by
    rw [List.nodup_cons] at hl
    rw [List.map_cons, List.nodup_cons]
    refine ⟨fun hm => ?_, nodup_map f l (fun a ha b hb => h a (List.mem_cons_of_mem _ ha) b (List.mem_cons_of_mem _ hb)) hl.2⟩
    obtain ⟨b, hb, e⟩ := List.mem_map.mp hm
    have := h b (List.mem_cons_of_mem _ hb) a List.mem_cons_self e
    subst this
    exact hl.1 hb
theorem KN_nodup (F : List (List T)) (h : F.length ≤ 64) : (KN F F.length).Nodup := by
  unfold KN
  refine nodup_map _ _ (fun a ha b hb e => ?_) (List.nodup_range.filter _)
  have h1 := List.mem_range.mp (List.mem_filter.mp ha).1
  have h2 := List.mem_range.mp (List.mem_filter.mp hb).1
  exact nm_inj a (by omega) b (by omega) e
theorem sort_nodup {gs : List Str} (h : gs.Nodup) : (sortStrs gs).Nodup := by
  unfold sortStrs
  exact (List.mergeSort_perm gs sle).nodup_iff.mpr h
theorem eLc_gen {α : Type} {m : DP} {g : Tg} {tt : DT} {te : DE} {S S0 : Sto} {en : En} {P : Prv} (xs : List α) (e : α → PV) (p : α → Bool) (q : α → PV) (hm : m en S = .ok P S0) (hn : P.n = xs.length) (hl : xs.length < 10000)
    (hit : ∀ i acc, P.it i (S0 ++ [.lst acc]) = some (xs.map e)[i]?)
    (hst : ∀ x ∈ xs, ∀ acc, ∃ en1, g.f (e x) (wipeP en g.sl) = some en1 ∧ tt en1 (S0 ++ [.lst acc]) = .ok (p x) (S0 ++ [.lst acc]) ∧ (p x = true → te en1 (S0 ++ [.lst acc]) = .ok (q x) (S0 ++ [.lst acc]))) :
    eLc m g tt te en S = .ok (.ref S0.length) (S0 ++ [.lst ((xs.filter p).map q)]) := by
  unfold eLc
  rw [hm]
  show lcRun P.it g tt te S0.length (P.n + 1) 0 (wipeP en g.sl) (S0 ++ [.lst []]) = _
  rw [hn, lcRun_map P.it g tt te S0 _ xs e p q hl hit hst xs.length 0 [] (by omega) (Nat.le_refl _)]
  simp
theorem get2_dc {S : Sto} {n : Nat} {v : Str → PV} {gs : List Str} (h : S[n]? = some (.dic (dc v gs))) (g : Str) (x : PV) : fGet2 (.ref n) (.str g) x S = .ok (if g ∈ gs then v g else x) S := by
  simp [fGet2, h, pvKey, dGet_dc]
  split <;> rfl
theorem isDic_of {S : Sto} {n : Nat} {kvs : List (Key × PV)} (h : S[n]? = some (.dic kvs)) : isDic (.ref n) S = true := by simp [isDic, h]
/-- fillings of the store -/
structure Fils (S : Sto) (q : Nat) (F : List (List T)) (gs : List Str) (refs : List Nat) : Prop where
  at_ : S[q]? = some (.lst (refs.map .ref))
  fil : ∀ (j a : Nat), refs[j]? = some a → q < a ∧ S[a]? = some (.dic (dc (vE (th F j)) gs))
theorem told_ok {ff fr : Fn} (wf : Nat) (S : Sto) (p m : Nat) (prs : List (T × T)) (F : List (List T)) (L R : T) (hG : Good F m)
    (hp : S[p]? = some (.lst (prs.map pairE))) (hm : prs.length = m) (hpr : ∀ k pr, prs[k]? = some pr → pr = (L.fill (th F k), R.fill (th F k)))
    (hgs : ∀ g, g ∈ L.gaps ++ R.gaps ↔ ∃ j, j < F.length ∧ g = nm j) (hdL : L.deep ≤ 20) (hdR : R.deep ≤ 20) (hl : L.gaps.length + R.gaps.length ≤ 60)
    (hf : FitOk ff 20)
    (hr : ∀ S a t ts, S[a]? = some (.lst ((t :: ts).map T.enc)) → (∀ u ∈ t :: ts, u.fit) → ts.length < 1000 → sameH t ts = false → RW (fr [.ref a, .str ((kd (t :: ts)).getD ⟨#[]⟩)] S) fun v S' => v = .bl true ∧ S <+: S') :
    RW (fnD 2 10 (b_q_law_told ff fr wf) [.tup [L.enc, R.enc, .tup ((ksOf F).map kindE)], .ref p] S) fun v S' => v = .bl true ∧ S <+: S' := by
  have hlen := hG.len
  have hm0 := hG.m0
  have hm1 := hG.m1
  have hthok : ∀ g, g ∈ L.gaps ++ R.gaps → ∀ k, k < m → (th F k g).fit := by
    intro g hg k hk
    obtain ⟨j, hj, rfl⟩ := (hgs g).mp hg
    unfold th
    rw [gi_nm (by omega) hj, List.getElem?_eq_getElem hj]
    have hge := hG.ge F[j] (List.getElem_mem hj)
    simp
    rw [List.getElem?_eq_getElem (show k < F[j].length by omega)]
    exact hG.fit F[j] (List.getElem_mem hj) _ (List.getElem_mem _)
  refine rw_fn rfl ?_
  have eisi : ∀ S, fIsi [.tup [L.enc, R.enc, .tup ((ksOf F).map kindE)], .ty "tuple"] S = .ok (.bl true) S := fun S => rfl
  simp [b_q_law_told, eisi]
  refine ow_for (prs.map pairE) (fun i en S' => (∃ z3 z4 z5 z6 z7 z8 z9, en = [some (.tup [L.enc, R.enc, .tup ((ksOf F).map kindE)]), some (.ref p), some (.ref S.length), z3, z4, z5, z6, z7, z8, z9]) ∧ S <+: S' ∧ ∃ refs, refs.length = i ∧ Fils S' S.length F (ddI (dd L.gaps) R.gaps) refs)
    (P0 := fLstP p (prs.map pairE).length) (S1 := S ++ [.lst []]) ?_ rfl ?_ ?_ ?_ ?_
  · have := v_iter_lst p _ (S ++ [.lst []]) (pre_get (List.prefix_append _ _) hp)
    simpa using this
  · exact ⟨⟨_, _, _, _, _, _, _, rfl⟩, List.prefix_append _ _, [], rfl, ⟨by simp, fun j a h => by simp at h⟩⟩
  · rintro i en S' _ ⟨_, hS, _⟩
    exact fLst_it _ _ _ _ (pre_get hS hp)
  · rintro i x en S' hx ⟨⟨z3, z4, z5, z6, z7, z8, z9, rfl⟩, hS, refs, hrl, hFi⟩
    rw [List.getElem?_map] at hx
    cases q : prs[i]? with
    | none => rw [q] at hx; cases hx
    | some u =>
      rw [q] at hx
      cases hx
      have him : i < m := by rw [← hm]; exact (List.getElem?_eq_some_iff.mp q).1
      rw [hpr i u q]
      have hql : S.length < S'.length := (List.getElem?_eq_some_iff.mp hFi.at_).1
      refine ⟨_, by simp [pairE]; rfl, ?_⟩
      simp
      refine (hf L (S' ++ [.dic []]) S'.length [] (th F i) hdL (by simp [dc]) (fun g hg => (hthok g (List.mem_append_left _ hg) i him).1) (by simp; omega)).mono ?_
      rintro _ S2 ⟨rfl, rfl⟩
      simp
      have l1 := dd_len L.gaps
      refine (hf R (S' ++ [.dic (dc (vE (th F i)) (dd L.gaps))]) S'.length (dd L.gaps) (th F i) hdR (by simp) (fun g hg => (hthok g (List.mem_append_right _ hg) i him).1) (by omega)).mono ?_
      rintro _ S2 ⟨rfl, rfl⟩
      simp
      have hat : (S' ++ [MO.dic (dc (vE (th F i)) (ddI (dd L.gaps) R.gaps))])[S.length]? = some (.lst (refs.map .ref)) := pre_get (List.prefix_append _ _) hFi.at_
      rw [isLst_of hat, app_of hat (by simp; omega)]
      simp
      refine ⟨pre_set (hS.trans (List.prefix_append _ _)) (Nat.le_refl _) _, refs ++ [S'.length], by simp [hrl], ⟨?_, ?_⟩⟩
      · rw [List.getElem?_set_self (by simp; omega)]
        simp
      · intro j a hja
        by_cases c : j < refs.length
        · rw [List.getElem?_append_left c] at hja
          obtain ⟨h1, h2⟩ := hFi.fil j a hja
          refine ⟨h1, ?_⟩
          rw [List.getElem?_set_ne (by omega)]
          exact pre_get (List.prefix_append _ _) h2
        · have e : j = refs.length := by
            have := (List.getElem?_eq_some_iff.mp hja).1
            simp at this
            omega
          subst e
          simp at hja
          subst hja
          refine ⟨hql, ?_⟩
          rw [List.getElem?_set_ne (by omega), hrl]
          simp
  · rintro en S' ⟨⟨z3, z4, z5, z6, z7, z8, z9, rfl⟩, hS, refs, hrl, hFi⟩
    have hrl : refs.length = m := by rw [hrl, List.length_map]; exact hm
    generalize hgsN : ddI (dd L.gaps) R.gaps = gs at hFi
    have hmem : ∀ g, g ∈ gs ↔ ∃ j, j < F.length ∧ g = nm j := by
      intro g
      rw [← hgs, ← hgsN, mem_ddI, mem_dd, List.mem_append]
    have hgn : gs.Nodup := by rw [← hgsN]; exact ddI_nodup (dd_nodup _)
    have hgl : gs.length < 64 := by
      have h1 := dd_len L.gaps
      have h2 := ddI_len R.gaps (dd L.gaps)
      rw [hgsN] at h2
      omega
    obtain ⟨a0, ha0⟩ : ∃ a0, refs[0]? = some a0 := ⟨_, List.getElem?_eq_getElem (by omega)⟩
    have hf0 := hFi.fil 0 a0 ha0
    have hql : S.length < S'.length := (List.getElem?_eq_some_iff.mp hFi.at_).1
    have hal : a0 < S'.length := (List.getElem?_eq_some_iff.mp hf0.2).1
    generalize hsk : sortStrs (KN F F.length) = sk
    have hskn : sk.Nodup := by rw [← hsk]; exact sort_nodup (KN_nodup F (by omega))
    have hskm : ∀ g, g ∈ sk ↔ g ∈ KN F F.length := fun g => by rw [← hsk]; exact mem_sort
    have hsubk : ∀ g ∈ sk, g ∈ gs := by
      intro g hg
      obtain ⟨j, hj, _, e⟩ := mem_KN.mp ((hskm g).mp hg)
      exact (hmem g).mpr ⟨j, hj, e.symm⟩
    have hks : (ksOf F).map (fun k => ((.inr k.1 : Key), PV.str k.2)) = dc (fun g => .str (kval F g)) sk := by
      unfold ksOf dc
      rw [hsk, List.map_map]
      rfl
    have hfd : fDict [.tup ((ksOf F).map kindE)] S' = .ok (.ref S'.length) (S' ++ [.dic (dc (fun g => .str (kval F g)) sk)]) := by
      simp only [fDict, pairsOf_kinds, hks]
      have := dMerge_dc (fun g => .str (kval F g)) sk [] (by simpa using hskn)
      rw [show dc (fun g => PV.str (kval F g)) [] = [] from rfl] at this
      rw [this]
      rfl
    simp [hfd]
    generalize hS1 : S' ++ [MO.dic (dc (fun g => .str (kval F g)) sk), MO.lst []] = S1
    have p1 : S' <+: S1 := by rw [← hS1]; exact List.prefix_append _ _
    have kd1 : S1[S'.length]? = some (.dic (dc (fun g => .str (kval F g)) sk)) := by rw [← hS1]; simp
    have rw1 : S1[S'.length + 1]? = some (.lst []) := by rw [← hS1]; simp
    have len1 : S1.length = S'.length + 2 := by rw [← hS1]; simp
    have q1 := pre_get p1 hFi.at_
    generalize hsg : sortStrs gs = sg
    have hsgn : sg.Nodup := by rw [← hsg]; exact sort_nodup hgn
    have hsgm : ∀ g, g ∈ sg ↔ g ∈ gs := fun g => by rw [← hsg]; exact mem_sort
    have hsgl : sg.length = gs.length := by rw [← hsg]; unfold sortStrs; exact List.length_mergeSort _
    have hzip : refs.map PV.ref = refs.zipIdx.map fun x => .ref x.1 := by
      rw [show (fun x : Nat × Nat => PV.ref x.1) = PV.ref ∘ Prod.fst from rfl, ← List.map_map, List.zipIdx_map_fst]
    have hrow : ∀ g, refs.zipIdx.map (fun x => (th F x.2 g).enc) = (rowOf F m g).map T.enc := by
      intro g
      unfold rowOf
      rw [List.map_map]
      apply List.ext_getElem?
      intro i
      rw [List.getElem?_map, List.getElem?_map, List.getElem?_zipIdx]
      by_cases c : i < m
      · rw [List.getElem?_range c, List.getElem?_eq_getElem (by omega)]
        simp
      · rw [show (List.range m)[i]? = none from List.getElem?_eq_none_iff.mpr (by rw [List.length_range]; omega), show refs[i]? = none from List.getElem?_eq_none_iff.mpr (by omega)]
        rfl
    refine ow_for (sg.map .str) (fun i en S2 => (∃ z3 z4 z5 z8 z9, en = [some (.tup [L.enc, R.enc, .tup ((ksOf F).map kindE)]), some (.ref p), some (.ref S.length), z3, z4, z5, some (.ref S'.length), some (.ref (S'.length + 1)), z8, z9]) ∧
      Fr (S'.length + 1) (S1 ++ [.lst (sg.map .str)]) S2 ∧ ∃ rrefs, Rows S2 (S'.length + 1) ((sg.take i).map (rowOf F m)) rrefs) (P0 := fLstP S1.length (sg.map PV.str).length) (S1 := S1 ++ [.lst (sg.map .str)]) ?_ rfl ?_ ?_ ?_ ?_
    · have e0 : fIx (.ref S.length) (.int 0) S1 = .ok (.ref a0) S1 := by
        rw [ix_ref q1, at0, List.getElem?_map, ha0]
        rfl
      have e1 : fSorted [.ref a0] S1 = .ok (.ref S1.length) (S1 ++ [.lst (sg.map .str)]) := by
        simp [fSorted, pre_get p1 hf0.2, keysOf_dc, hgl, hsg]
      simp [e0, e1]
      rw [v_iter_lst S1.length (sg.map .str) _ (by simp)]
      simp
    · exact ⟨⟨_, _, _, _, _, rfl⟩, Fr.rfl' _ _, [], ⟨pre_get (List.prefix_append _ _) rw1, rfl, fun i r a h => by simp at h⟩⟩
    · rintro i en S2 _ ⟨_, hF2, _⟩
      exact fLst_it _ _ _ _ (hF2.get (by simp) (by omega))
    · rintro i x en S2 hx ⟨⟨z3, z4, z5, z8, z9, rfl⟩, hF2, rrefs, hR⟩
      rw [List.getElem?_map] at hx
      cases q : sg[i]? with
      | none => rw [q] at hx; cases hx
      | some g =>
        rw [q] at hx
        cases hx
        have hgs' : g ∈ gs := (hsgm g).mp (List.mem_of_getElem? q)
        obtain ⟨j, hj, hjg⟩ := (hmem g).mp hgs'
        have hFm : F[j] ∈ F := List.getElem_mem hj
        have hfr : Fr (S'.length + 1) S1 S2 := (Fr.of_pre (List.prefix_append _ _)).trans hF2
        have q2 := hfr.get q1 (by omega)
        refine ⟨_, r_gN .., ?_⟩
        simp
        rw [eLc_ref (a := S.length) refs.zipIdx (fun x => PV.ref x.1) (fun _ => true) (fun x => (th F x.2 g).enc) (by rw [← hzip]; exact q2) (by simp) (by simp; omega) (fun x hx acc => ⟨_, r_gN .., rfl, fun _ => by
          have hx' : refs[x.2]? = some x.1 := List.mk_mem_zipIdx_iff_getElem?.mp hx
          have h1 := hFi.fil x.2 x.1 hx'
          have h2 : (S2 ++ [MO.lst acc])[x.1]? = some (.dic (dc (vE (th F x.2)) gs)) := pre_get (List.prefix_append _ _) (hfr.get (pre_get p1 h1.2) (by
            have := (List.getElem?_eq_some_iff.mp h1.2).1
            omega))
          have h3 := ix_dic h2 hgs'
          simp [wipeP, gN, h3, vE]⟩), filter_yes, hrow]
        have hrg : rowOf F m g = F[j].take m := by rw [hjg]; exact rowOf_nm hG hj
        obtain ⟨t, ts, hts, hsm⟩ := hG.same F[j] hFm
        have hfit : ∀ u ∈ t :: ts, u.fit := fun u hu => hG.fit F[j] hFm u (List.mem_of_mem_take (by rw [hts]; exact hu))
        have htl : (t :: ts).length ≤ m := by rw [← hts]; exact List.length_take_le _ _
        have hge := hG.ge F[j] hFm
        rw [hrg, hts]
        generalize hS3 : S2 ++ [MO.lst ((t :: ts).map T.enc)] = S3
        have p3 : S2 <+: S3 := by rw [← hS3]; exact List.prefix_append _ _
        have a3 : S3[S2.length]? = some (.lst ((t :: ts).map T.enc)) := by rw [← hS3]; simp
        have hrk : ∀ r ∈ (sg.take i).map (rowOf F m), ∃ j', ∃ h : j' < F.length, nm j' ∈ sg.take i ∧ r = F[j'].take m := by
          intro r hr
          obtain ⟨g', hg', rfl⟩ := List.mem_map.mp hr
          obtain ⟨j', hj', e'⟩ := (hmem g').mp ((hsgm g').mp (List.mem_of_mem_take hg'))
          exact ⟨j', hj', e' ▸ hg', by rw [e']; exact rowOf_nm hG hj'⟩
        have hrok : ∀ r ∈ (sg.take i).map (rowOf F m), ∀ u ∈ r, u.ok := by
          intro r hr u hu
          obtain ⟨j', hj', _, rfl⟩ := hrk r hr
          exact (hG.fit _ (List.getElem_mem hj') u (List.mem_of_mem_take hu)).1
        have hin := rows_in (hR.pre p3) hrok S2.length (t :: ts) a3 fun u hu => (hfit u hu).1
        have hnin : (t :: ts) ∉ (sg.take i).map (rowOf F m) := by
          intro hm2
          obtain ⟨j', hj', hg', e'⟩ := hrk _ hm2
          rw [← hts] at e'
          have e2 := hG.inj _ hFm _ (List.getElem_mem hj') e'
          have e3 := (List.getElem_inj hG.nodup).mp e2
          subst e3
          rw [← hjg] at hg'
          have h5 : sg.take i ++ sg.drop i = sg := List.take_append_drop i sg
          rw [← h5, List.nodup_append] at hsgn
          have hgd : g ∈ sg.drop i := by
            have hil := (List.getElem?_eq_some_iff.mp q)
            obtain ⟨hil, heq⟩ := hil
            rw [List.drop_eq_getElem_cons hil, heq]
            exact List.mem_cons_self
          exact hsgn.2.2 g hg' g hgd rfl
        have hkd3 : S3[S'.length]? = some (.dic (dc (fun g => .str (kval F g)) sk)) := pre_get p3 (hfr.get kd1 (by omega))
        have hkv : (if g ∈ sk then PV.str (kval F g) else .str (Str.ofString "")) = .str ((kd (t :: ts)).getD ⟨#[]⟩) := by
          have e1 : kd (t :: ts) = kd F[j] := by rw [← hts]; exact hG.kd _ hFm
          have e2 : (F[j]?).getD [] = F[j] := by rw [List.getElem?_eq_getElem hj]; rfl
          rw [e1]
          by_cases c : g ∈ sk
          · rw [if_pos c, hjg]
            unfold kval
            rw [gi_nm (by omega) hj, e2]
          · rw [if_neg c]
            have hno : (kd F[j]).isSome ≠ true := fun h => c ((hskm g).mpr (mem_KN.mpr ⟨j, hj, by rw [e2]; exact h, hjg.symm⟩))
            cases hk : kd F[j] with
            | none => rfl
            | some k => rw [hk] at hno; exact absurd rfl hno
        have hnin' : (t :: ts) ∉ (sg.map (rowOf F m)).take i := by rw [← List.map_take]; exact hnin
        simp [hin, hnin', isDic_of hkd3, get2_dc hkd3]
        rw [hkv]
        refine (hr S3 S2.length t ts a3 hfit (by simp at htl; omega) hsm).mono ?_
        rintro _ S4 ⟨rfl, h4⟩
        have hR4 := (hR.pre p3).pre h4
        have hrl4 : rrefs.length < 16777216 := by
          have := hR.len
          rw [List.length_map] at this
          have h6 := List.length_take_le i sg
          have h7 : (sg.take i).length ≤ sg.length := by rw [List.length_take]; omega
          omega
        simp [isLst_of hR4.at_, app_of hR4.at_ (by simpa using hrl4)]
        refine ⟨?_, rrefs ++ [S2.length], ?_⟩
        · have f4 : Fr (S'.length + 1) (S1 ++ [.lst (sg.map .str)]) S4 := hF2.trans (Fr.of_pre (p3.trans h4))
          exact ⟨by simpa using f4.1, fun k hk hkn => by rw [List.getElem?_set_ne (fun e => hkn e.symm)]; exact f4.2 k hk hkn⟩
        · rw [← List.map_take, take_one q, List.map_append, List.map_singleton, hrg, hts]
          have h8 : S2.length ≠ S'.length + 1 := by
            have := hF2.1
            simp at this
            omega
          exact hR4.add h8 (t :: ts) (pre_get h4 a3)
    · rintro en S2 ⟨⟨z3, z4, z5, z8, z9, rfl⟩, hF2, rrefs, hR⟩
      have hfr : Fr (S'.length + 1) S1 S2 := (Fr.of_pre (List.prefix_append _ _)).trans hF2
      have q2 := hfr.get q1 (by omega)
      have kd2 := hfr.get kd1 (by omega)
      have d2 := hfr.get (pre_get p1 hf0.2) (by omega)
      have hpre : S <+: S2 := Fr.pre (hS.trans p1) hfr (by omega)
      have hkl : S'.length < S2.length := (List.getElem?_eq_some_iff.mp kd2).1
      obtain ⟨S3, hS3⟩ : ∃ S3, S3 = S2.set S'.length (.fdic (dc (fun g => .str (kval F g)) sk)) := ⟨_, rfl⟩
      have i1 : S3[S.length]? = some (.lst (refs.map .ref)) := by rw [hS3, List.getElem?_set_ne (by omega)]; exact q2
      have i2 : S3[a0]? = some (.dic (dc (vE (th F 0)) gs)) := by rw [hS3, List.getElem?_set_ne (by omega)]; exact d2
      have hpre3 : S <+: S3 := by rw [hS3]; exact pre_set hpre (by omega) _
      have hsl : sk.length < 10000 := by
        have h1 : sk.length = (KN F F.length).length := by rw [← hsk]; unfold sortStrs; exact List.length_mergeSort _
        have h2 := KN_len F F.length
        omega
      rw [eLc_gen (S0 := S3) (P := fTupP (sk.map .str)) sk PV.str (fun _ => false) (fun _ => .non) (by
          rw [hS3]
          simp [fIter, kd2]
          simp [dc, keyPV, Function.comp_def]) (by simp [fTupP]) hsl (fun i acc => rfl) (fun g hg acc => ⟨_, r_gN .., by
            have h1 := pre_get (List.prefix_append _ [MO.lst acc]) i1
            have h2 := pre_get (List.prefix_append _ [MO.lst acc]) i2
            have h3 : fIx (.ref S.length) (.int 0) (S3 ++ [MO.lst acc]) = .ok (.ref a0) (S3 ++ [MO.lst acc]) := by
              rw [ix_ref h1, at0, List.getElem?_map, ha0]
              rfl
            simp [wipeP, gN, h3]
            simp only [fNotIn, fIn, h2, pvKey, dGet_dc, if_pos (hsubk g hg), rNot]
            rfl, fun h => by cases h⟩)]
      have hno : sk.filter (fun _ => false) = [] := List.filter_eq_nil_iff.mpr (fun _ _ => by simp)
      have := eq_nil2 S3 [] (by simp)
      simp at this
      rw [hno]
      simp
      rw [this]
      simp
      exact hpre3.trans (List.prefix_append _ _)
end K71
namespace K71
open PySem Dn Pg
open L2 (atI ixN Key)
theorem sameH_mem {t : T} {ts : List T} (h : sameH t ts = true) : ∀ u ∈ t :: ts, u.headEq t = true := by
  intro u hu
  simp only [sameH, Bool.and_eq_true, List.all_eq_true] at h
  exact h.1 u hu
theorem shp_fill (ρ : List T → Str) (θ : Str → T) (k : Nat) (d : T) : ∀ (t : T) (ts : List T) (u : T), (∀ r ∈ need t ts, θ (ρ r) = (r[k]?).getD d) → (t :: ts)[k]? = some u → (shp ρ t ts).fill θ = u := by
  have kidk : ∀ (t : T) (ts : List T) (u : T) (i : Nat), (t :: ts)[k]? = some u → (kid i t :: ts.map (kid i))[k]? = some (kid i u) := by
    intro t ts u i h
    have : kid i t :: ts.map (kid i) = (t :: ts).map (kid i) := rfl
    rw [this, List.getElem?_map, h]
    rfl
  have base : ∀ (t : T) (ts : List T) (u : T), sameH t ts = false → (∀ r ∈ need t ts, θ (ρ r) = (r[k]?).getD d) → (t :: ts)[k]? = some u → (shp ρ t ts).fill θ = u := by
    intro t ts u hs h hu
    rw [shp_not hs]
    show θ (ρ (t :: ts)) = u
    rw [h (t :: ts) (by rw [need_not hs]; exact List.mem_cons_self), hu]
    rfl
  intro t
  induction t with
  | gap g => intro ts u; exact base _ ts u (sameH_gap g ts)
  | lf l =>
    intro ts u h hu
    cases hs : sameH (.lf l) ts with
    | false => exact base _ ts u hs h hu
    | true =>
      have := sameH_mem hs u (List.mem_of_getElem? hu)
      cases u <;> simp [T.headEq] at this
      simp [shp, hs, T.fill, this]
  | one a ih =>
    intro ts u h hu
    cases hs : sameH (.one a) ts with
    | false => exact base _ ts u hs h hu
    | true =>
      have e := sameH_mem hs u (List.mem_of_getElem? hu)
      cases u <;> simp [T.headEq] at e
      have e1 := ih (ts.map (kid 0)) _ (by simpa [need, hs] using h) (kidk _ ts _ 0 hu)
      simp [shp, hs, T.fill, e1, kid, T.parts]
  | two o a b iha ihb =>
    intro ts u h hu
    cases hs : sameH (.two o a b) ts with
    | false => exact base _ ts u hs h hu
    | true =>
      have e := sameH_mem hs u (List.mem_of_getElem? hu)
      cases u <;> simp [T.headEq] at e
      simp only [need, hs, if_true] at h
      have e1 := iha (ts.map (kid 0)) _ (fun r hr => h r (List.mem_append_left _ hr)) (kidk _ ts _ 0 hu)
      have e2 := ihb (ts.map (kid 1)) _ (fun r hr => h r (List.mem_append_right _ hr)) (kidk _ ts _ 1 hu)
      simp [shp, hs, T.fill, e1, e2, kid, T.parts, e]
  | thr a b c iha ihb ihc =>
    intro ts u h hu
    cases hs : sameH (.thr a b c) ts with
    | false => exact base _ ts u hs h hu
    | true =>
      have e := sameH_mem hs u (List.mem_of_getElem? hu)
      cases u <;> simp [T.headEq] at e
      simp only [need, hs, if_true] at h
      have e1 := iha (ts.map (kid 0)) _ (fun r hr => h r (List.mem_append_left _ hr)) (kidk _ ts _ 0 hu)
      have e2 := ihb (ts.map (kid 1)) _ (fun r hr => h r (List.mem_append_right _ (List.mem_append_left _ hr))) (kidk _ ts _ 1 hu)
      have e3 := ihc (ts.map (kid 2)) _ (fun r hr => h r (List.mem_append_right _ (List.mem_append_right _ hr))) (kidk _ ts _ 2 hu)
      simp [shp, hs, T.fill, e1, e2, e3, kid, T.parts]
theorem need_fun : ∀ (t : T) (j0 : Nat) (js : List Nat) (f : Nat → T), t = f j0 → ∀ r ∈ need t (js.map f), ∃ f' : Nat → T, r = (j0 :: js).map f' ∧ sameH (f' j0) (js.map f') = false := by
  have base : ∀ (t : T) (j0 : Nat) (js : List Nat) (f : Nat → T), t = f j0 → sameH t (js.map f) = false → ∀ r ∈ need t (js.map f), ∃ f' : Nat → T, r = (j0 :: js).map f' ∧ sameH (f' j0) (js.map f') = false := by
    intro t j0 js f ht hs r hr
    rw [need_not hs] at hr
    simp at hr
    subst ht
    exact ⟨f, hr, hs⟩
  intro t
  induction t with
  | gap g => intro j0 js f ht; exact base _ j0 js f ht (sameH_gap _ _)
  | lf l =>
    intro j0 js f ht r hr
    cases hs : sameH (.lf l) (js.map f) with
    | false => exact base _ j0 js f ht hs r hr
    | true => simp [need, hs] at hr
  | one a ih =>
    intro j0 js f ht r hr
    cases hs : sameH (.one a) (js.map f) with
    | false => exact base _ j0 js f ht hs r hr
    | true =>
      simp only [need, hs, if_true, List.map_map] at hr
      exact ih j0 js (kid 0 ∘ f) (by simp [← ht, kid, T.parts]) r hr
  | two o a b iha ihb =>
    intro j0 js f ht r hr
    cases hs : sameH (.two o a b) (js.map f) with
    | false => exact base _ j0 js f ht hs r hr
    | true =>
      simp only [need, hs, if_true, List.map_map] at hr
      rcases List.mem_append.mp hr with hr | hr
      · exact iha j0 js (kid 0 ∘ f) (by simp [← ht, kid, T.parts]) r hr
      · exact ihb j0 js (kid 1 ∘ f) (by simp [← ht, kid, T.parts]) r hr
  | thr a b c iha ihb ihc =>
    intro j0 js f ht r hr
    cases hs : sameH (.thr a b c) (js.map f) with
    | false => exact base _ j0 js f ht hs r hr
    | true =>
      simp only [need, hs, if_true, List.map_map] at hr
      rcases List.mem_append.mp hr with hr | hr
      · exact iha j0 js (kid 0 ∘ f) (by simp [← ht, kid, T.parts]) r hr
      · rcases List.mem_append.mp hr with hr | hr
        · exact ihb j0 js (kid 1 ∘ f) (by simp [← ht, kid, T.parts]) r hr
        · exact ihc j0 js (kid 2 ∘ f) (by simp [← ht, kid, T.parts]) r hr
/-- a shape of numbers, gaps and signs that do nothing aloud -/
def T.skel : T → Bool
  | .lf (.num _) => true
  | .lf _ => false
  | .gap _ => true
  | .one _ => false
  | .two _ a b => a.skel && b.skel
  | .thr a b c => a.skel && (b.skel && c.skel)
theorem sameH_num (n : Int) (js : List Nat) : sameH (.lf (.num n)) (js.map fun _ => .lf (.num n)) = true := by simp [sameH, T.headEq, T.sg, Lf.sg]
theorem sameH_two (o : Op2) (a b : T) (js : List Nat) (f g : Nat → T) : sameH (.two o a b) (js.map fun k => .two o (f k) (g k)) = true := by simp [sameH, T.headEq, T.sg]
theorem sameH_thr (a b c : T) (js : List Nat) (f g h : Nat → T) : sameH (.thr a b c) (js.map fun k => .thr (f k) (g k) (h k)) = true := by simp [sameH, T.headEq, T.sg]
theorem kid_two0 (o : Op2) (js : List Nat) (f g : Nat → T) : (js.map fun k => T.two o (f k) (g k)).map (kid 0) = js.map f := by simp [kid, T.parts, Function.comp_def]
theorem kid_two1 (o : Op2) (js : List Nat) (f g : Nat → T) : (js.map fun k => T.two o (f k) (g k)).map (kid 1) = js.map g := by simp [kid, T.parts, Function.comp_def]
theorem kid_thr0 (js : List Nat) (f g h : Nat → T) : (js.map fun k => T.thr (f k) (g k) (h k)).map (kid 0) = js.map f := by simp [kid, T.parts, Function.comp_def]
theorem kid_thr1 (js : List Nat) (f g h : Nat → T) : (js.map fun k => T.thr (f k) (g k) (h k)).map (kid 1) = js.map g := by simp [kid, T.parts, Function.comp_def]
theorem kid_thr2 (js : List Nat) (f g h : Nat → T) : (js.map fun k => T.thr (f k) (g k) (h k)).map (kid 2) = js.map h := by simp [kid, T.parts, Function.comp_def]
theorem need_skel (σ : Nat → Str → T) (j0 : Nat) (js : List Nat) : ∀ L : T, L.skel = true → need (L.fill (σ j0)) (js.map fun k => L.fill (σ k)) = L.gaps.flatMap fun g => need (σ j0 g) (js.map fun k => σ k g)
  | .lf l, h => by
    cases l <;> simp [T.skel] at h
    simp only [T.fill, need, sameH_num, if_true, T.gaps, List.flatMap_nil]
  | .gap g, _ => by simp [T.fill, T.gaps]
  | .one a, h => by simp [T.skel] at h
  | .two o a b, h => by
    simp [T.skel] at h
    simp only [T.fill, need, sameH_two, if_true, T.gaps, List.flatMap_append, kid_two0, kid_two1]
    rw [need_skel σ j0 js a h.1, need_skel σ j0 js b h.2]
  | .thr a b c, h => by
    simp [T.skel] at h
    simp only [T.fill, need, sameH_thr, if_true, T.gaps, List.flatMap_append, kid_thr0, kid_thr1, kid_thr2]
    rw [need_skel σ j0 js a h.1, need_skel σ j0 js b h.2.1, need_skel σ j0 js c h.2.2]
theorem loud_skel (ρ : List T → Str) (σ : Nat → Str → T) (j0 : Nat) (js : List Nat) : ∀ L : T, L.skel = true → (shp ρ (L.fill (σ j0)) (js.map fun k => L.fill (σ k))).loud = L.gaps.any fun g => (shp ρ (σ j0 g) (js.map fun k => σ k g)).loud
  | .lf l, h => by
    cases l <;> simp [T.skel] at h
    simp only [T.fill, shp, sameH_num, if_true, T.gaps, List.any_nil, T.loud]
  | .gap g, _ => by simp [T.fill, T.gaps]
  | .one a, h => by simp [T.skel] at h
  | .two o a b, h => by
    simp [T.skel] at h
    simp only [T.fill, shp, sameH_two, if_true, T.gaps, List.any_append, kid_two0, kid_two1, T.loud]
    rw [loud_skel ρ σ j0 js a h.1, loud_skel ρ σ j0 js b h.2]
  | .thr a b c, h => by
    simp [T.skel] at h
    simp only [T.fill, shp, sameH_thr, if_true, T.gaps, List.any_append, kid_thr0, kid_thr1, kid_thr2, T.loud]
    rw [loud_skel ρ σ j0 js a h.1, loud_skel ρ σ j0 js b h.2.1, loud_skel ρ σ j0 js c h.2.2]
theorem shp_deep (ρ : List T → Str) : ∀ (t : T) (ts : List T), (shp ρ t ts).deep ≤ t.deep
  | .lf l, ts => by simp only [shp]; split <;> simp [T.deep]
  | .gap g, ts => by simp [shp, T.deep]
  | .one a, ts => by have := shp_deep ρ a (ts.map (kid 0)); simp only [shp]; split <;> simp [T.deep]; omega
  | .two o a b, ts => by have := shp_deep ρ a (ts.map (kid 0)); have := shp_deep ρ b (ts.map (kid 1)); simp only [shp]; split <;> simp [T.deep]; omega
  | .thr a b c, ts => by have := shp_deep ρ a (ts.map (kid 0)); have := shp_deep ρ b (ts.map (kid 1)); have := shp_deep ρ c (ts.map (kid 2)); simp only [shp]; split <;> simp [T.deep]; omega
/-- a piece that fills a gap -/
def piece (t : T) : Prop := t.fine = true ∧ t.plain = true ∧ t.deep ≤ 3 ∧ t.leaves ≤ 3
theorem fill_fit (θ : Str → T) : ∀ L : T, L.skel = true → (∀ g ∈ L.gaps, piece (θ g)) → (L.fill θ).fine = true ∧ (L.fill θ).plain = true ∧ (L.fill θ).deep ≤ L.deep + 3
  | .lf l, h, _ => by cases l <;> simp [T.skel] at h; simp [T.fill, T.fine, Lf.fine, T.plain]
  | .gap g, _, h => by obtain ⟨h1, h2, h3, _⟩ := h g (by simp [T.gaps]); exact ⟨h1, h2, by simp [T.fill, T.deep]; omega⟩
  | .one a, h, _ => by simp [T.skel] at h
  | .two o a b, h, hg => by
    simp [T.skel] at h
    have h1 := fill_fit θ a h.1 fun g hg' => hg g (by simp [T.gaps, hg'])
    have h2 := fill_fit θ b h.2 fun g hg' => hg g (by simp [T.gaps, hg'])
    refine ⟨by simp [T.fill, T.fine, h1.1, h2.1], by simp [T.fill, T.plain, h1.2.1, h2.2.1], ?_⟩
    simp only [T.fill, T.deep]; omega
  | .thr a b c, h, hg => by
    simp [T.skel] at h
    have h1 := fill_fit θ a h.1 fun g hg' => hg g (by simp [T.gaps, hg'])
    have h2 := fill_fit θ b h.2.1 fun g hg' => hg g (by simp [T.gaps, hg'])
    have h3 := fill_fit θ c h.2.2 fun g hg' => hg g (by simp [T.gaps, hg'])
    refine ⟨by simp [T.fill, T.fine, h1.1, h2.1, h3.1], by simp [T.fill, T.plain, h1.2.1, h2.2.1, h3.2.1], ?_⟩
    simp only [T.fill, T.deep]; omega
end K71
namespace K71
open PySem Dn Pg
open L2 (atI ixN Key)
structure Given (L R : T) (σ : Nat → Str → T) : Prop where
  sl : L.skel = true
  sr : R.skel = true
  top : ∃ o a b, L = .two o a b
  dl : L.deep ≤ 7
  dr : R.deep ≤ 7
  sub : ∀ g ∈ R.gaps, g ∈ L.gaps
  pc : ∀ k, ∀ g ∈ L.gaps, piece (σ k g)
  few : L.gaps.length + R.gaps.length ≤ 20
def colL (L : T) (σ : Nat → Str → T) (js : List Nat) : List T := js.map fun k => L.fill (σ k)
def Fof (L R : T) (σ : Nat → Str → T) (j0 : Nat) (js : List Nat) : List (List T) := FoF (L.fill (σ j0)) (colL L σ js) (R.fill (σ j0)) (colL R σ js)
def ruleOf (L R : T) (σ : Nat → Str → T) (j0 : Nat) (js : List Nat) : PV := ruleE (Fof L R σ j0 js) (L.fill (σ j0)) (colL L σ js) (R.fill (σ j0)) (colL R σ js)
def prsOf (L R : T) (σ : Nat → Str → T) (js : List Nat) : List (T × T) := js.map fun k => (L.fill (σ k), R.fill (σ k))
theorem flat_len {α β : Type} (f : α → List β) : ∀ (l : List α), (∀ x ∈ l, (f x).length ≤ 3) → (l.flatMap f).length ≤ 3 * l.length
  | [], _ => by simp
  | x :: l, h => by
    have h1 := h x List.mem_cons_self
    have h2 := flat_len f l fun y hy => h y (List.mem_cons_of_mem _ hy)
    simp only [List.flatMap_cons, List.length_append, List.length_cons]
    omega
section
variable {L R : T} {σ : Nat → Str → T} (hg : Given L R σ) (j0 : Nat) (js : List Nat)
include hg
theorem fitL (k : Nat) : (L.fill (σ k)).fit := by
  obtain ⟨h1, h2, h3⟩ := fill_fit (σ k) L hg.sl fun g h => hg.pc k g h
  have := hg.dl
  exact ⟨⟨h1, by omega⟩, h2⟩
theorem fitR (k : Nat) : (R.fill (σ k)).fit := by
  obtain ⟨h1, h2, h3⟩ := fill_fit (σ k) R hg.sr fun g h => hg.pc k g (hg.sub g h)
  have := hg.dr
  exact ⟨⟨h1, by omega⟩, h2⟩
theorem fitLs : ∀ u ∈ L.fill (σ j0) :: colL L σ js, u.fit := by
  intro u hu
  rcases List.mem_cons.mp hu with rfl | hu
  · exact fitL hg j0
  · obtain ⟨k, _, rfl⟩ := List.mem_map.mp hu; exact fitL hg k
theorem fitRs : ∀ u ∈ R.fill (σ j0) :: colL R σ js, u.fit := by
  intro u hu
  rcases List.mem_cons.mp hu with rfl | hu
  · exact fitR hg j0
  · obtain ⟨k, _, rfl⟩ := List.mem_map.mp hu; exact fitR hg k
theorem lenL : (need (L.fill (σ j0)) (colL L σ js)).length ≤ 3 * L.gaps.length := by
  unfold colL
  rw [need_skel σ j0 js L hg.sl]
  exact flat_len _ _ fun g h => Nat.le_trans (need_len _ _) (hg.pc j0 g h).2.2.2
theorem lenR : (need (R.fill (σ j0)) (colL R σ js)).length ≤ 3 * R.gaps.length := by
  unfold colL
  rw [need_skel σ j0 js R hg.sr]
  exact flat_len _ _ fun g h => Nat.le_trans (need_len _ _) (hg.pc j0 g (hg.sub g h)).2.2.2
theorem needs_sub : ∀ q ∈ need (R.fill (σ j0)) (colL R σ js), q ∈ need (L.fill (σ j0)) (colL L σ js) := by
  unfold colL
  rw [need_skel σ j0 js R hg.sr, need_skel σ j0 js L hg.sl]
  intro q hq
  obtain ⟨g, h1, h2⟩ := List.mem_flatMap.mp hq
  exact List.mem_flatMap.mpr ⟨g, hg.sub g h1, h2⟩
theorem loud_sub (ρ : List T → Str) : (shp ρ (R.fill (σ j0)) (colL R σ js)).loud = true → (shp ρ (L.fill (σ j0)) (colL L σ js)).loud = true := by
  unfold colL
  rw [loud_skel ρ σ j0 js R hg.sr, loud_skel ρ σ j0 js L hg.sl]
  intro h
  obtain ⟨g, h1, h2⟩ := List.any_eq_true.mp h
  exact List.any_eq_true.mpr ⟨g, hg.sub g h1, h2⟩
omit hg in
theorem mem_F {q : List T} : q ∈ Fof L R σ j0 js ↔ q ∈ need (L.fill (σ j0)) (colL L σ js) ∨ q ∈ need (R.fill (σ j0)) (colL R σ js) := by
  unfold Fof FoF
  rw [mem_addR, mem_addR]
  simp
theorem F_fun : ∀ q ∈ Fof L R σ j0 js, ∃ f : Nat → T, q = (j0 :: js).map f ∧ sameH (f j0) (js.map f) = false := by
  intro q hq
  rcases (mem_F j0 js).mp hq with h | h
  · exact need_fun _ j0 js (fun k => L.fill (σ k)) rfl q h
  · exact need_fun _ j0 js (fun k => R.fill (σ k)) rfl q h
theorem F_len : (Fof L R σ j0 js).length ≤ 60 := by
  have h1 := lenL hg j0 js
  have h2 := lenR hg j0 js
  have h3 := hg.few
  have h4 := addR_len (need (L.fill (σ j0)) (colL L σ js)) []
  have h5 := addR_len (need (R.fill (σ j0)) (colL R σ js)) (addR [] (need (L.fill (σ j0)) (colL L σ js)))
  simp at h4
  unfold Fof FoF
  omega
omit hg in
theorem F_nodup : (Fof L R σ j0 js).Nodup := addR_nodup (addR_nodup List.nodup_nil)
theorem F_fit : ∀ q ∈ Fof L R σ j0 js, ∀ u ∈ q, u.fit := by
  intro q hq
  rcases (mem_F j0 js).mp hq with h | h
  · exact need_fit _ _ (fitLs hg j0 js) q h
  · exact need_fit _ _ (fitRs hg j0 js) q h
omit hg in
theorem gaps_F (g : Str) : g ∈ (shp (nmR (Fof L R σ j0 js)) (L.fill (σ j0)) (colL L σ js)).gaps ++ (shp (nmR (Fof L R σ j0 js)) (R.fill (σ j0)) (colL R σ js)).gaps ↔ ∃ j, j < (Fof L R σ j0 js).length ∧ g = nm j := by
  rw [shp_gaps, shp_gaps, ← List.map_append, List.mem_map]
  constructor
  · rintro ⟨q, hq, rfl⟩
    have hm : q ∈ Fof L R σ j0 js := (mem_F j0 js).mpr (List.mem_append.mp hq)
    exact ⟨_, List.idxOf_lt_length_of_mem hm, rfl⟩
  · rintro ⟨j, hj, rfl⟩
    refine ⟨(Fof L R σ j0 js)[j], List.mem_append.mpr ((mem_F j0 js).mp (List.getElem_mem hj)), ?_⟩
    unfold nmR
    rw [List.Nodup.idxOf_getElem (F_nodup j0 js) j hj]
omit hg in
theorem th_row {F : List (List T)} (hl : F.length ≤ 64) {q : List T} (hq : q ∈ F) (k : Nat) : th F k (nmR F q) = (q[k]?).getD (.gap ⟨#[]⟩) := by
  have hi := List.idxOf_lt_length_of_mem hq
  unfold th nmR
  rw [gi_nm hl hi, List.getElem?_eq_getElem hi, List.getElem_idxOf hi]
  rfl
theorem goodF (m : Nat) (ks : List Nat) (hm : (j0 :: js).take m = j0 :: ks) (hk : (j0 :: ks).length = m) (hm1 : m < 100) (hall : ∀ j ∈ js, j ∈ j0 :: ks) : Good (Fof L R σ j0 js) m := by
  have hks : ∀ k ∈ ks, k ∈ j0 :: js := fun k hk => List.mem_of_mem_take (by rw [hm]; exact List.mem_cons_of_mem _ hk)
  have hsame : ∀ f : Nat → T, sameH (f j0) (js.map f) = sameH (f j0) (ks.map f) := by
    intro f
    unfold sameH
    congr 1
    rw [Bool.eq_iff_iff, List.all_eq_true, List.all_eq_true]
    constructor
    · intro h u hu
      apply h
      rcases List.mem_cons.mp hu with rfl | hu
      · exact List.mem_cons_self
      · obtain ⟨k, hk, rfl⟩ := List.mem_map.mp hu
        rcases List.mem_cons.mp (hks k hk) with rfl | hk
        · exact List.mem_cons_self
        · exact List.mem_cons_of_mem _ (List.mem_map.mpr ⟨k, hk, rfl⟩)
    · intro h u hu
      apply h
      rcases List.mem_cons.mp hu with rfl | hu
      · exact List.mem_cons_self
      · obtain ⟨k, hk, rfl⟩ := List.mem_map.mp hu
        rcases List.mem_cons.mp (hall k hk) with rfl | hk
        · exact List.mem_cons_self
        · exact List.mem_cons_of_mem _ (List.mem_map.mpr ⟨k, hk, rfl⟩)
  have hallK : ∀ (f : Nat → T) (p : T → Bool), ((j0 :: ks).map f).all p = ((j0 :: js).map f).all p := by
    intro f p
    rw [Bool.eq_iff_iff, List.all_eq_true, List.all_eq_true]
    constructor
    · intro h u hu
      obtain ⟨k, hk, rfl⟩ := List.mem_map.mp hu
      apply h
      rcases List.mem_cons.mp hk with rfl | hk
      · exact List.mem_cons_self
      · exact List.mem_map.mpr ⟨k, hall k hk, rfl⟩
    · intro h u hu
      obtain ⟨k, hk, rfl⟩ := List.mem_map.mp hu
      apply h
      rcases List.mem_cons.mp hk with rfl | hk
      · exact List.mem_cons_self
      · exact List.mem_map.mpr ⟨k, hks k hk, rfl⟩
  have htake : ∀ f : Nat → T, ((j0 :: js).map f).take m = (j0 :: ks).map f := fun f => by rw [← List.map_take, hm]
  refine ⟨F_len hg j0 js, by simp at hk; omega, hm1, F_fit hg j0 js, F_nodup j0 js, ?_, ?_, ?_, ?_⟩
  · intro q hq q' hq' e
    obtain ⟨f, rfl, _⟩ := F_fun hg j0 js q hq
    obtain ⟨f', rfl, _⟩ := F_fun hg j0 js q' hq'
    rw [htake, htake, List.map_inj_left] at e
    rw [List.map_inj_left]
    intro j hj
    rcases List.mem_cons.mp hj with rfl | hj
    · exact e j List.mem_cons_self
    · exact e j (hall j hj)
  · intro q hq
    obtain ⟨f, rfl, _⟩ := F_fun hg j0 js q hq
    have h1 : ((j0 :: js).take m).length = m := by rw [hm]; exact hk
    rw [List.length_take] at h1
    rw [List.length_map]
    omega
  · intro q hq
    obtain ⟨f, rfl, hs⟩ := F_fun hg j0 js q hq
    exact ⟨f j0, ks.map f, htake f, by rw [← hsame]; exact hs⟩
  · intro q hq
    obtain ⟨f, rfl, hs⟩ := F_fun hg j0 js q hq
    rw [htake]
    unfold kd
    rw [hallK, hallK]
theorem ro_ok {fw fk fl fs fo : Fn} (wf : Nat) (S : Sto) (p : Nat) (hp : S[p]? = some (.lst ((prsOf L R σ (j0 :: js)).map pairE))) (h8 : (j0 :: js).length ≤ 8)
    (hw : ∀ S (n : Nat), n < 64 → fw [.int (n : Int)] S = .ok (.str (wd n)) S)
    (hk : ∀ S a (r : List T), S[a]? = some (.lst (r.map T.enc)) → (∀ u ∈ r, u.fit) → r.length < 1000 → RW (fk [.ref a] S) fun v S' => v = kdV r ∧ S <+: S')
    (hl : ∀ S p (prs : List (T × T)), S[p]? = some (.lst (prs.map pairE)) → prs ≠ [] → prs.length ≤ 8 → (∀ q ∈ prs, q.1.deep ≤ 20 ∧ q.2.deep ≤ 20) → RW (fl [.ref p] S) fun v S' => v = .non ∧ S' = S)
    (hs : ShapeOk fs 20)
    (ho : ∀ (l r : T) (ks : List (Str × Str)) S, l.deep ≤ 20 → r.deep ≤ 20 → l.parts ≠ [] → l.gaps.length ≤ 5000 → r.gaps.length ≤ 5000 → l.nameless = true → r.nameless = true → (∀ g ∈ r.gaps, g ∈ l.gaps) → (∀ k ∈ ks, k.1 ∈ l.gaps) → (r.loud = true → l.loud = true) →
      RW (fo [.tup [l.enc, r.enc, .tup (ks.map kindE)]] S) fun v S' => v = .non ∧ S <+: S') :
    RW (fnD 1 10 (b_reading_read_off fw fk fl fs fo wf) [.ref p] S) fun v S' => v = ruleOf L R σ j0 js ∧ S <+: S' := by
  have h1 := lenL hg j0 js
  have h2 := lenR hg j0 js
  have h3 := hg.few
  refine read_off_ok wf S p (prsOf L R σ (j0 :: js)) (L.fill (σ j0)) (colL L σ js) (R.fill (σ j0)) (colL R σ js) hp (by simp [prsOf] at h8 ⊢; omega) (by simp [prsOf, colL, Function.comp_def]) (by simp [prsOf, colL, Function.comp_def]) (fitLs hg j0 js) (fitRs hg j0 js) (by omega) hw hk (fun S p h => hl S p _ h (by simp [prsOf]) (by simp [prsOf] at h8 ⊢; omega) (fun q hq => by
    obtain ⟨k, _, rfl⟩ := List.mem_map.mp hq
    exact ⟨(fitL hg k).1.2, (fitR hg k).1.2⟩)) hs ?_ ?_
  · intro S
    refine ho _ _ _ S (Nat.le_trans (shp_deep _ _ _) (fitL hg j0).1.2) (Nat.le_trans (shp_deep _ _ _) (fitR hg j0).1.2) ?_ ?_ ?_ (shp_nameless _ _ _) (shp_nameless _ _ _) ?_ ?_ (loud_sub hg j0 js _)
    · obtain ⟨o, a, b, rfl⟩ := hg.top
      have : sameH ((T.two o a b).fill (σ j0)) (colL (T.two o a b) σ js) = true := sameH_two o _ _ js _ _
      simp only [T.fill] at this
      simp [T.fill, shp, this, T.parts]
    · rw [shp_gaps, List.length_map]; omega
    · rw [shp_gaps, List.length_map]; omega
    · intro g hg'
      rw [shp_gaps] at hg' ⊢
      obtain ⟨q, hq, rfl⟩ := List.mem_map.mp hg'
      exact List.mem_map.mpr ⟨q, needs_sub hg j0 js q hq, rfl⟩
    · intro k hk'
      unfold ksOf at hk'
      obtain ⟨g, hg', rfl⟩ := List.mem_map.mp hk'
      obtain ⟨j, hj, _, e⟩ := mem_KN.mp (mem_sort.mp hg')
      have := (gaps_F (L := L) (R := R) (σ := σ) j0 js g).mpr ⟨j, hj, e.symm⟩
      rcases List.mem_append.mp this with h | h
      · exact h
      · rw [shp_gaps] at h
        show g ∈ _
        rw [shp_gaps]
        obtain ⟨q, hq, e2⟩ := List.mem_map.mp h
        exact List.mem_map.mpr ⟨q, needs_sub hg j0 js q hq, e2⟩
  · intro q hq
    obtain ⟨f, rfl, _⟩ := F_fun hg j0 js q hq
    rw [List.length_map]
    omega
theorem tl_ok {ff fr : Fn} (wf : Nat) (S : Sto) (p m : Nat) (ks : List Nat) (hm : (j0 :: js).take m = j0 :: ks) (hk : (j0 :: ks).length = m) (hm1 : m < 100) (hall : ∀ j ∈ js, j ∈ j0 :: ks)
    (hp : S[p]? = some (.lst ((prsOf L R σ (j0 :: ks)).map pairE))) (hf : FitOk ff 20)
    (hr : ∀ S a t ts, S[a]? = some (.lst ((t :: ts).map T.enc)) → (∀ u ∈ t :: ts, u.fit) → ts.length < 1000 → sameH t ts = false → RW (fr [.ref a, .str ((kd (t :: ts)).getD ⟨#[]⟩)] S) fun v S' => v = .bl true ∧ S <+: S') :
    RW (fnD 2 10 (b_q_law_told ff fr wf) [ruleOf L R σ j0 js, .ref p] S) fun v S' => v = .bl true ∧ S <+: S' := by
  have h1 := lenL hg j0 js
  have h2 := lenR hg j0 js
  have h3 := hg.few
  have hlen := F_len hg j0 js
  refine told_ok wf S p m (prsOf L R σ (j0 :: ks)) (Fof L R σ j0 js) _ _ (goodF hg j0 js m ks hm hk hm1 hall) hp (by unfold prsOf; rw [List.length_map]; exact hk) ?_ (gaps_F j0 js) ?_ ?_ ?_ hf hr
  · intro k pr hpr
    unfold prsOf at hpr
    rw [List.getElem?_map] at hpr
    cases q : (j0 :: ks)[k]? with
    | none => rw [q] at hpr; cases hpr
    | some j =>
      rw [q] at hpr
      have hkm : k < m := by rw [← hk]; exact (List.getElem?_eq_some_iff.mp q).1
      have q2 : (j0 :: js)[k]? = some j := by
        rw [← hm, List.getElem?_take, if_pos hkm] at q
        exact q
      have e1 := shp_fill (nmR (Fof L R σ j0 js)) (th (Fof L R σ j0 js) k) k (.gap ⟨#[]⟩) (L.fill (σ j0)) (colL L σ js) (L.fill (σ j)) (fun r hr => th_row (by omega) ((mem_F j0 js).mpr (.inl hr)) k) (by
        show ((j0 :: js).map fun k => L.fill (σ k))[k]? = _
        rw [List.getElem?_map, q2]
        rfl)
      have e2 := shp_fill (nmR (Fof L R σ j0 js)) (th (Fof L R σ j0 js) k) k (.gap ⟨#[]⟩) (R.fill (σ j0)) (colL R σ js) (R.fill (σ j)) (fun r hr => th_row (by omega) ((mem_F j0 js).mpr (.inr hr)) k) (by
        show ((j0 :: js).map fun k => R.fill (σ k))[k]? = _
        rw [List.getElem?_map, q2]
        rfl)
      rw [e1, e2]
      exact (Option.some.inj hpr).symm
  · exact Nat.le_trans (shp_deep _ _ _) (fitL hg j0).1.2
  · exact Nat.le_trans (shp_deep _ _ _) (fitR hg j0).1.2
  · rw [shp_gaps, shp_gaps, List.length_map, List.length_map]
    omega
end
end K71
namespace K71
open PySem Dn Pg
open L2 (atI ixN Key)
theorem v_modP (i j : Int) (S : Sto) (h : 0 < j) : fMod (.int i) (.int j) S = .ok (.int (i % j)) S := if_pos h
theorem v_divP (i j : Int) (S : Sto) (h : 0 < j) (h2 : j < 9000) : fDiv (.int i) (.int j) S = .ok (.int (i / j)) S := if_pos ⟨h, Nat.lt_of_le_of_lt (Nat.log2_le_self _) (by omega)⟩
theorem v_mulP (i j : Int) (S : Sto) (h : 0 ≤ j) (h2 : j < 18446744073709551616) : fMul (.int i) (.int j) S = .ok (.int (i * j)) S := if_pos (.inr (.inr (by omega)))
theorem v_add (i j : Int) (S : Sto) : fAdd (.int i) (.int j) S = .ok (.int (i + j)) S := rfl
theorem v_lt (i j : Int) (S : Sto) : fLt (.int i) (.int j) S = .ok (decide (i < j)) S := rfl
theorem v_gt (i j : Int) (S : Sto) : fGt (.int i) (.int j) S = .ok (decide (j < i)) S := rfl
def tens : Int := 1000000000000000000000000000000
theorem v_pow (S : Sto) : fPow (.int 10) (.int 30) S = .ok (.int tens) S := by
  show (if (0 : Int) ≤ 30 ∧ (30 : Int) ≤ 1000000 ∧ (10 : Int).natAbs < 2 ^ 64 then (Res.ok (PV.int ((10 : Int) ^ (30 : Int).toNat)) S : Res PV) else Res.bad) = _
  rw [if_pos (by decide +kernel), show ((10 : Int) ^ (30 : Int).toNat) = tens by decide +kernel]
theorem ix_some {S : Sto} {a : Nat} {xs : List PV} (h : S[a]? = some (.lst xs)) (i : Int) (h0 : 0 ≤ i) (h1 : i < xs.length) : RW (fIx (.ref a) (.int i) S) fun x S' => x ∈ xs ∧ S' = S ∧ xs[i.toNat]? = some x := by
  obtain ⟨n, rfl⟩ : ∃ n : Nat, i = n := ⟨i.toNat, by omega⟩
  rw [ix_ref h, atN]
  have hn : n < xs.length := by omega
  rw [List.getElem?_eq_getElem hn]
  simp
theorem cell_at_ok (wf : Nat) (S : Sto) (ns : List Int) (k : Nat) : ∃ c : Int, fnD 2 2 (b_q_law_cell_at wf) [.rol (ns.map .int), .int (k : Int)] S = .ok (.int c) S := by
  by_cases h : k < ns.length
  · refine ⟨ns[k], ?_⟩
    have e : fIx (.rol (ns.map .int)) (.int (k : Int)) S = .ok (.int ns[k]) S := by
      show optRes (atI (ns.map PV.int) (k : Int)) S = _
      rw [atN, List.getElem?_map, List.getElem?_eq_getElem h]
      rfl
    simp [fnD, rS, b_q_law_cell_at, fLen, v_lt, h, e]
  · refine ⟨0, ?_⟩
    simp [fnD, rS, b_q_law_cell_at, fLen, v_lt, h]
theorem leaf_ok (wf : Nat) (S : Sto) (c kind : Int) (hk : kind = 0 ∨ kind = 1 ∨ kind = 2 ∨ kind = 3) : RW (fnD 2 3 (b_q_law_leaf wf) [.int c, .int kind] S) fun v S' => (∃ l : Lf, v = (T.lf l).enc ∧ l.fine = true) ∧ S <+: S' := by
  have num : ∀ n : Int, ∃ l : Lf, PV.tup [.str Sg.num.str, .int n] = (T.lf l).enc ∧ l.fine = true := fun n => ⟨.num n, rfl, rfl⟩
  refine rw_fn rfl ?_
  rcases hk with rfl | hk
  · simp [b_q_law_leaf, v_divP, v_modP, v_pow, show (0 : Int) < tens by decide]
    refine (ix_some (get_end _ _) _ (by omega) (by simp; omega)).mono ?_
    rintro x S2 ⟨hx, rfl, _⟩
    simp at hx
    simp
    rcases hx with rfl | rfl
    · exact num _
    · exact num _
  · rcases hk with rfl | rfl | rfl
    all_goals
      simp [b_q_law_leaf, v_divP, v_modP, ix_ref (get_end S _), at1, at2, at3, v_lt]
      generalize c % _ = t
      by_cases h1 : t < 2
      · simp [h1]
        exact num _
      · simp [h1]
        by_cases h2 : t = 2
        · simp [h2]
          refine (ix_some (S := S ++ [.lst [.int 1, .int 3, .int 4, .int 4], .lst [.str (Str.ofString "b"), .str (Str.ofString "bb")]]) (a := S.length + 1) (xs := [.str (Str.ofString "b"), .str (Str.ofString "bb")]) (by simp) (c / 4 % 2) (by omega) (by simp; omega)).mono ?_
          rintro x S2 ⟨hx, rfl, _⟩
          simp at hx
          simp
          rcases hx with rfl | rfl
          · exact ⟨.name _, rfl, by decide +kernel⟩
          · exact ⟨.name _, rfl, by decide +kernel⟩
        · simp [h2]
          refine (ix_some (S := S ++ [.lst [.int 1, .int 3, .int 4, .int 4], .lst [.str Sg.ask.str, .str Sg.ask.str, .str Sg.stop.str]]) (a := S.length + 1) (xs := [.str Sg.ask.str, .str Sg.ask.str, .str Sg.stop.str]) (by simp) (c / 4 % 3) (by omega) (by simp; omega)).mono ?_
          rintro x S2 ⟨hx, rfl, _⟩
          simp at hx
          refine (ix_some (get_end _ _) (c / 12 % 2) (by omega) (by simp; omega)).mono ?_
          rintro y S2 ⟨hy, rfl, _⟩
          simp at hy
          simp
          rcases hx with rfl | rfl <;> rcases hy with rfl | rfl
          · exact ⟨.ask _, rfl, by decide +kernel⟩
          · exact ⟨.ask _, rfl, by decide +kernel⟩
          · exact ⟨.stop _, rfl, by decide +kernel⟩
          · exact ⟨.stop _, rfl, by decide +kernel⟩
theorem piece_lf {l : Lf} (h : l.fine = true) : piece (.lf l) := ⟨h, rfl, by simp [T.deep], by simp [T.leaves]⟩
theorem piece_ok {fl : Fn} (wf : Nat) (S : Sto) (c kind : Int) (hk : kind = 0 ∨ kind = 1 ∨ kind = 2 ∨ kind = 3)
    (hl : ∀ S c, RW (fl [.int c, .int kind] S) fun v S' => (∃ l : Lf, v = (T.lf l).enc ∧ l.fine = true) ∧ S <+: S') :
    RW (fnD 2 5 (b_q_law_piece fl wf) [.int c, .int kind] S) fun v S' => (∃ t, v = t.enc ∧ piece t) ∧ S <+: S' := by
  refine rw_fn rfl ?_
  simp [b_q_law_piece, v_mulP, v_modP]
  refine (hl S c).mono ?_
  rintro _ S1 ⟨⟨l1, rfl, f1⟩, p1⟩
  by_cases h0 : kind = 0
  · simp [h0]
    exact ⟨⟨_, rfl, piece_lf f1⟩, p1⟩
  · simp [h0, v_modP, v_lt]
    by_cases h1 : c * 16807 % 2147483647 % 8 < 4
    · simp [h1]
      exact ⟨⟨_, rfl, piece_lf f1⟩, p1⟩
    · simp [h1, v_divP]
      refine (hl S1 _).mono ?_
      rintro _ S2 ⟨⟨l2, rfl, f2⟩, p2⟩
      have pp := p1.trans p2
      have one : piece (.one (.lf l1)) := ⟨f1, rfl, by simp [T.deep], by simp [T.leaves]⟩
      have two : ∀ o, piece (.two o (.lf l1) (.lf l2)) := fun o => ⟨by simp [T.fine, f1, f2], by simp [T.plain], by simp [T.deep], by simp [T.leaves]⟩
      have thr : piece (.thr (.lf l1) (.lf l2) (.lf l1)) := ⟨by simp [T.fine, f1, f2], by simp [T.plain], by simp [T.deep], by simp [T.leaves]⟩
      have rest : RW (fIx (.ref S2.length) (.int (c * 16807 % 2147483647 % 2)) (S2 ++ [MO.lst [.str Sg.add.str, .str Sg.mul.str]])) fun x S' => (x = .str Sg.add.str ∨ x = .str Sg.mul.str) ∧ S' = (S2 ++ [MO.lst [.str Sg.add.str, .str Sg.mul.str]]) := by
        refine (ix_some (get_end _ _) _ (by omega) (by simp; omega)).mono ?_
        rintro x S3 ⟨hx, rfl, _⟩
        simp at hx
        exact ⟨hx, rfl⟩
      by_cases h2 : c * 16807 % 2147483647 % 8 = 4
      · by_cases h3 : kind = 3
        · simp [h2, h3]
          exact ⟨⟨_, rfl, one⟩, pp⟩
        · simp [h2, h3, v_modP]
          refine rest.mono ?_
          rintro x S3 ⟨hx, rfl⟩
          refine ⟨?_, pp.trans (List.prefix_append _ _)⟩
          rcases hx with rfl | rfl
          · exact ⟨_, rfl, two .add⟩
          · exact ⟨_, rfl, two .mul⟩
      · by_cases h4 : c * 16807 % 2147483647 % 8 = 5
        · simp [h4, v_modP]
          exact ⟨⟨_, rfl, thr⟩, pp⟩
        · simp [h2, h4, v_modP]
          refine rest.mono ?_
          rintro x S3 ⟨hx, rfl⟩
          refine ⟨?_, pp.trans (List.prefix_append _ _)⟩
          rcases hx with rfl | rfl
          · exact ⟨_, rfl, two .add⟩
          · exact ⟨_, rfl, two .mul⟩
end K71
namespace K71
open PySem Dn Pg
open L2 (atI ixN Key)
theorem args_lf (l : Lf) : (T.lf l).args = [l.val] := rfl
theorem args_parts (t : T) (h : t.parts ≠ []) : t.args = t.parts.map T.enc := by cases t <;> simp [T.parts] at h <;> rfl
@[simp] theorem isi_val (l : Lf) (S : Sto) : fIsi [l.val, .ty "tuple"] S = .ok (.bl false) S := by cases l <;> rfl
def FilledOk (f : Fn) (D : Nat) : Prop := ∀ (s : T) (S : Sto) (n : Nat) (θ : Str → T) (marks : List Str), s.deep ≤ D → S[n]? = some (.dic (dc (vE θ) marks)) → (∀ g ∈ s.gaps, g ∈ marks) →
  RW (f [s.enc, .ref n] S) fun v S' => v = (s.fill θ).enc ∧ S <+: S'
theorem gaps_part {s a : T} (h : a ∈ s.parts) : ∀ g ∈ a.gaps, g ∈ s.gaps := by
  intro g hg
  cases s <;> simp [T.parts] at h <;> simp [T.gaps]
  case one b => subst h; exact hg
  case two o b c => rcases h with rfl | rfl; exact .inl hg; exact .inr hg
  case thr b c d => rcases h with rfl | rfl | rfl; exact .inl hg; exact .inr (.inl hg); exact .inr (.inr hg)
theorem fill_enc (s : T) (θ : Str → T) (h : s.parts ≠ []) : (s.fill θ).enc = .tup (.str s.sg.str :: s.parts.map fun a => (a.fill θ).enc) := by
  cases s <;> simp [T.parts] at h <;> rfl
theorem filled_ok {f : Fn} (wf : Nat) (D : Nat) (hf : FilledOk f D) : FilledOk (fnD 2 4 (b_q_law_filled f wf)) (D + 1) := by
  intro s S n θ marks hD hn hg
  have hnl : n < S.length := (List.getElem?_eq_some_iff.mp hn).1
  have loop : ∀ (ps : List T) (xs : List PV) (S1 : Sto) (z : Option PV), (∀ a ∈ ps, a.deep ≤ D ∧ ∀ g ∈ a.gaps, g ∈ marks) → xs.length + ps.length ≤ 100 → S <+: S1 → S1[S.length]? = some (.lst xs) →
      OW (forL (gN 3) (sIf (tVal (eFn fIsi (aCons (eVar 3) (aCons (eC (.ty "tuple")) (aNil))))) (sExpr (eMt isLst fAppend (eVar 2) (aCons (eFn f (aCons (eVar 3) (aCons (eVar 1) (aNil)))) (aNil)))) (sExpr (eMt isLst fAppend (eVar 2) (aCons (eVar 3) (aNil))))) (ps.map T.enc) [some s.enc, some (.ref n), some (.ref S.length), z] S1)
        (fun en S2 => (∃ z, en = [some s.enc, some (.ref n), some (.ref S.length), z]) ∧ S <+: S2 ∧ S2[S.length]? = some (.lst (xs ++ ps.map fun a => (a.fill θ).enc))) (fun _ _ => False) := by
    intro ps
    induction ps with
    | nil => intro xs S1 z _ _ h1 h2; simpa using ⟨h1, h2⟩
    | cons a ps ih =>
      intro xs S1 z hps hl h1 h2
      refine ow_forL (r_gN ..) ?_
      simp [isLst_of h2]
      obtain ⟨hd, hga⟩ := hps a List.mem_cons_self
      refine (hf a S1 n θ marks hd (pre_get h1 hn) hga).mono ?_
      rintro _ S2 ⟨rfl, h3⟩
      have h4 := pre_get h3 h2
      rw [app_of h4 (by simp at hl; omega)]
      simp
      have := ih (xs ++ [(a.fill θ).enc]) (S2.set S.length (.lst (xs ++ [(a.fill θ).enc]))) (some a.enc) (fun b hb => hps b (List.mem_cons_of_mem _ hb)) (by simp at hl ⊢; omega) (pre_set (h1.trans h3) (Nat.le_refl _) _) (List.getElem?_set_self (List.getElem?_eq_some_iff.mp h4).1)
      simpa using this
  refine rw_fn rfl ?_
  by_cases hp : s.parts = []
  · cases s with
    | gap g => simp [b_q_law_filled, T.sg, ix_dic hn (hg g (by simp [T.gaps])), T.fill, vE]
    | lf l =>
      have hs : (l.sg = .gap) = False := by cases l <;> simp [Lf.sg]
      simp [b_q_law_filled, T.sg, hs]
      refine ow_tup (S1 := S ++ [.lst [.str l.sg.str]]) (xs := [l.val]) (by simp [args_lf]) ?_
      refine ow_forL (r_gN ..) ?_
      simp [isLst_of (get_end S _), app_of (get_end S (.lst [.str l.sg.str])) (by simp), fTuple, lstAt, T.fill, T.enc]
    | one a => simp [T.parts] at hp
    | two o a b => simp [T.parts] at hp
    | thr a b c => simp [T.parts] at hp
  · have hs : (s.sg = .gap) = False := by cases s <;> simp [T.parts] at hp <;> simp [T.sg]
    simp [b_q_law_filled, hs]
    refine ow_tup (S1 := S ++ [.lst [.str s.sg.str]]) (xs := s.parts.map T.enc) (by simp [args_parts s hp]) ?_
    have hpl : s.parts.length ≤ 3 := by cases s <;> simp [T.parts]
    refine (loop s.parts [.str s.sg.str] _ none (fun a ha => ⟨by have := T.deep_part ha; omega, fun g h => hg g (gaps_part ha g h)⟩) (by simp; omega) (List.prefix_append _ _) (get_end _ _)).mono ?_ (fun _ _ h => h.elim)
    rintro en S2 ⟨⟨z, rfl⟩, h1, h2⟩
    simp [fTuple, lstAt, h2, fill_enc s θ hp]
    exact h1
def GapsOk (f : Fn) (D : Nat) : Prop := ∀ (s : T) (S : Sto), s.deep ≤ D → s.gaps.length ≤ 1000 → RW (f [s.enc] S) fun v S' => (∃ a, v = .ref a ∧ S'[a]? = some (.lst (s.gaps.map .str))) ∧ S <+: S'
theorem gaps_parts (s : T) (h : s.parts ≠ []) : s.gaps = s.parts.flatMap T.gaps := by cases s <;> simp [T.parts] at h <;> simp [T.gaps, T.parts]
theorem add_ref {S : Sto} {a b : Nat} {xs ys : List PV} (ha : S[a]? = some (.lst xs)) (hb : S[b]? = some (.lst ys)) (h : xs.length + ys.length ≤ 16777216) : fAdd (.ref a) (.ref b) S = .ok (.ref S.length) (S ++ [.lst (xs ++ ys)]) := by
  simp [fAdd, ha, hb, h]
theorem law_gaps_ok {f : Fn} (wf : Nat) (D : Nat) (hf : GapsOk f D) : GapsOk (fnD 1 3 (b_q_law_gaps f wf)) (D + 1) := by
  intro s S hD hl
  have loop : ∀ (ps : List T) (xs : List Str) (a : Nat) (S1 : Sto) (z : Option PV), (∀ u ∈ ps, u.deep ≤ D) → xs.length + (ps.flatMap T.gaps).length ≤ 1000 → S <+: S1 → S1[a]? = some (.lst (xs.map .str)) →
      OW (forL (gN 2) (sIf (tVal (eFn fIsi (aCons (eVar 2) (aCons (eC (.ty "tuple")) (aNil))))) (sSet 1 (eBin fAdd (eVar 1) (eFn f (aCons (eVar 2) (aNil))))) (sNil)) (ps.map T.enc) [some s.enc, some (.ref a), z] S1)
        (fun en S2 => (∃ a z, en = [some s.enc, some (.ref a), z] ∧ S2[a]? = some (.lst ((xs ++ ps.flatMap T.gaps).map .str))) ∧ S <+: S2) (fun _ _ => False) := by
    intro ps
    induction ps with
    | nil => intro xs a S1 z _ _ h1 h2; simpa using ⟨h2, h1⟩
    | cons u ps ih =>
      intro xs a S1 z hps hl h1 h2
      simp at hl
      refine ow_forL (r_gN ..) ?_
      simp
      refine (hf u S1 (hps u List.mem_cons_self) (by omega)).mono ?_
      rintro _ S2 ⟨⟨b, rfl, h3⟩, h4⟩
      rw [add_ref (pre_get h4 h2) h3 (by simp; omega)]
      simp
      have := ih (xs ++ u.gaps) S2.length (S2 ++ [.lst (xs.map .str ++ u.gaps.map .str)]) (some u.enc) (fun b hb => hps b (List.mem_cons_of_mem _ hb)) (by simp; omega) ((h1.trans h4).trans (List.prefix_append _ _)) (by simp)
      simpa using this
  refine rw_fn rfl ?_
  by_cases hp : s.parts = []
  · cases s with
    | gap g => simp [b_q_law_gaps, T.sg, T.gaps]
    | lf l =>
      have hs : (l.sg = .gap) = False := by cases l <;> simp [Lf.sg]
      simp [b_q_law_gaps, T.sg, hs]
      refine ow_tup (S1 := S ++ [.lst []]) (xs := [l.val]) (by simp [args_lf]) ?_
      refine ow_forL (r_gN ..) ?_
      simp [T.gaps]
    | one a => simp [T.parts] at hp
    | two o a b => simp [T.parts] at hp
    | thr a b c => simp [T.parts] at hp
  · have hs : (s.sg = .gap) = False := by cases s <;> simp [T.parts] at hp <;> simp [T.sg]
    simp [b_q_law_gaps, hs]
    refine ow_tup (S1 := S ++ [.lst []]) (xs := s.parts.map T.enc) (by simp [args_parts s hp]) ?_
    refine (loop s.parts [] S.length _ none (fun a ha => by have := T.deep_part ha; omega) (by rw [← gaps_parts s hp]; simpa using hl) (List.prefix_append _ _) (by simp)).mono ?_ (fun _ _ h => h.elim)
    rintro en S2 ⟨⟨a, z, rfl, h1⟩, h2⟩
    rw [← gaps_parts s hp] at h1
    simp at h1
    simp
    exact ⟨h1, h2⟩
theorem cut_ref {S : Sto} {c : Nat} {xs : List PV} (h : S[c]? = some (.lst xs)) (lo hi : Option Int) : fCut (.ref c) lo hi S = .ok (.ref S.length) (S ++ [.lst (cutP xs lo hi)]) := by simp [fCut, h]
theorem cut_a (cells : List Int) (n : Nat) (h0 : 0 < cells.length) (h : n ≤ cells.length) : cutP (cells.map PV.int) (some 1) (some (n : Int)) = ((cells.drop 1).take (n - 1)).map PV.int := by
  unfold cutP
  rw [List.length_map, HT.sIx_nat, show (1 : Int) = ((1 : Nat) : Int) from rfl, HT.sIx_nat, Nat.min_eq_left h, Nat.min_eq_left (show 1 ≤ cells.length from h0), List.map_take, List.map_drop]
theorem cut_b (cells : List Int) (n : Nat) (h : n ≤ cells.length) : cutP (cells.map PV.int) (some (n : Int)) none = (cells.drop n).map PV.int := by
  unfold cutP
  rw [List.length_map, HT.sIx_nat, HT.sIx_none, Nat.min_eq_left h, List.map_drop, List.take_of_length_le (by simp)]
def MkOk (f : Fn) (D : Nat) : Prop := ∀ (cells : List Int) (d : Nat) (S : Sto) (c m : Nat) (marks : List Str), d ≤ D → cells.length ≤ 63 → S[c]? = some (.lst (cells.map .int)) → S[m]? = some (.lst (marks.map .str)) → marks ≠ [] →
  RW (f [.ref c, .int (d : Int), .ref m] S) fun v S' => (∃ s : T, v = s.enc ∧ s.skel = true ∧ s.deep ≤ d + 1 ∧ (∀ g ∈ s.gaps, g ∈ marks) ∧ s.gaps.length ≤ cells.length + 1) ∧ S <+: S'
theorem shape_ok {f : Fn} (wf : Nat) (D : Nat) (hf : ∀ D', D' < D → MkOk f D') : MkOk (fnD 3 7 (b_q_law_shape f wf)) D := by
  intro cells d S c m marks hd hcl hc hm hmk
  have hml : 0 < marks.length := List.length_pos_iff.mpr hmk
  have mark : ∀ (i : Int) (S' : Sto), S <+: S' → RW (fIx (.ref m) (.int (i % (marks.length : Int))) S') fun x S2 => (∃ g ∈ marks, x = .str g) ∧ S2 = S' := by
    intro i S' h
    have h1 : 0 ≤ i % (marks.length : Int) := Int.emod_nonneg _ (by omega)
    have h2 : i % (marks.length : Int) < marks.length := Int.emod_lt_of_pos _ (by omega)
    refine (ix_some (pre_get h hm) _ h1 (by rw [List.length_map]; exact h2)).mono ?_
    rintro x S2 ⟨hx, rfl, _⟩
    obtain ⟨g, hg, rfl⟩ := List.mem_map.mp hx
    exact ⟨⟨g, hg, rfl⟩, rfl⟩
  have hlm : fLen [.ref m] S = .ok (.int (marks.length : Nat)) S := by rw [len_ref hm, List.length_map]
  have hmp : (0 : Int) < (marks.length : Int) := by omega
  have gapc : ∀ g ∈ marks, ∃ s : T, PV.tup [.str Sg.gap.str, .str g, .tup []] = s.enc ∧ s.skel = true ∧ s.deep ≤ d + 1 ∧ (∀ g ∈ s.gaps, g ∈ marks) ∧ s.gaps.length ≤ cells.length + 1 := by
    intro g hg
    exact ⟨.gap g, rfl, rfl, by simp [T.deep], by simp [T.gaps, hg], by simp [T.gaps]⟩
  refine rw_fn rfl ?_
  simp [b_q_law_shape, len_ref hc]
  by_cases h0 : cells = []
  · simp [h0, hlm, v_modP _ _ _ hmp]
    refine (mark _ _ List.prefix_rfl).mono ?_
    rintro x S2 ⟨⟨g, hg, rfl⟩, rfl⟩
    simp
    have := gapc g hg
    rw [h0] at this
    simpa using this
  · have hcp : 0 < cells.length := List.length_pos_iff.mpr h0
    have ec : fIx (.ref c) (.int 0) S = .ok (.int (cells[0])) S := by
      rw [ix_ref hc, at0, List.getElem?_map, List.getElem?_eq_getElem hcp]
      rfl
    have ln : ∀ n : Int, ∃ s : T, PV.tup [.str Sg.num.str, .int n] = s.enc ∧ s.skel = true ∧ s.deep ≤ d + 1 ∧ (∀ g ∈ s.gaps, g ∈ marks) ∧ s.gaps.length ≤ cells.length + 1 := fun n => ⟨.lf (.num n), rfl, rfl, by simp [T.deep], by simp [T.gaps], by simp [T.gaps]⟩
    by_cases h1 : cells.length = 1 ∨ d = 0
    · rcases h1 with h1 | h1
      all_goals
        simp [h0, ec, v_mulP, v_modP, h1, len_ref hc]
        by_cases h5 : cells[0] * 39373 % 2147483647 % 5 = 0
        · simp [h5, ec, v_pow, v_modP _ tens _ (by decide)]
          try split
          all_goals simpa [h1] using ln _
        · simp [h5, v_divP, hlm, v_modP _ _ _ hmp]
          try split
          all_goals
            refine (mark _ _ List.prefix_rfl).mono ?_
            rintro x S2 ⟨⟨g, hg, rfl⟩, rfl⟩
            simpa [h1] using gapc g hg
    · have h2 : cells.length ≠ 1 := fun h => h1 (.inl h)
      obtain ⟨d', rfl⟩ : ∃ d', d = d' + 1 := ⟨d - 1, by have : d ≠ 0 := fun h => h1 (.inr h); omega⟩
      have hlp : (0 : Int) < (cells.length : Int) := by omega
      have h2i : ¬ (cells.length : Int) = 1 := by omega
      simp [h0, ec, v_mulP, v_modP, h2, h2i, len_ref hc]
      generalize hx : cells[0] * 39373 % 2147483647 = x
      have q1 : 0 ≤ x / 8 % (cells.length : Int) := Int.emod_nonneg _ (by omega)
      have q2 : x / 8 % (cells.length : Int) < cells.length := Int.emod_lt_of_pos _ hlp
      obtain ⟨n, hn⟩ : ∃ n : Nat, 1 + x / 8 % (cells.length : Int) = (n : Int) := ⟨(1 + x / 8 % (cells.length : Int)).toNat, by omega⟩
      have hn1 : 1 ≤ n := by omega
      have hn2 : n ≤ cells.length := by omega
      have hd0 : ¬ ((d' : Int) + 1 = 0) := by omega
      simp [hd0, h2i, v_divP, len_ref hc, v_modP _ _ _ hlp, v_add, hn, cut_ref hc, cut_a cells n hcp hn2]
      have hs1 : S <+: S ++ [MO.lst (((cells.drop 1).take (n - 1)).map PV.int)] := List.prefix_append _ _
      have hf1 := hf d' (by omega) ((cells.drop 1).take (n - 1)) d' (S ++ [MO.lst (((cells.drop 1).take (n - 1)).map PV.int)]) S.length m marks (Nat.le_refl _) (by rw [List.length_take, List.length_drop]; omega) (get_end _ _) (pre_get hs1 hm) hmk
      simp at hf1
      refine hf1.mono ?_
      rintro _ S1 ⟨⟨s1, rfl, a1, a2, a3, a4⟩, p1⟩
      have p1' : S <+: S1 := (List.prefix_append _ _).trans p1
      have hc1 := pre_get p1' hc
      simp [cut_ref hc1, cut_b cells n hn2]
      have hf2 := hf d' (by omega) (cells.drop n) d' (S1 ++ [MO.lst ((cells.drop n).map PV.int)]) S1.length m marks (Nat.le_refl _) (by rw [List.length_drop]; omega) (get_end _ _) (pre_get (List.prefix_append _ _) (pre_get p1' hm)) hmk
      simp at hf2
      refine hf2.mono ?_
      rintro _ S2 ⟨⟨s2, rfl, b1, b2, b3, b4⟩, p2⟩
      have p2' : S <+: S2 := (p1'.trans (List.prefix_append _ _)).trans p2
      by_cases h8 : x % 8 < 2
      · simp [v_modP, v_lt, h8, v_divP]
        refine ⟨⟨.thr s2 (.lf (.num (x / 64 % 3))) s1, rfl, by simp [T.skel, a1, b1], by simp [T.deep]; omega, ?_, by simp [T.gaps]; omega⟩, p2'⟩
        intro g hg
        simp [T.gaps] at hg
        exact hg.elim (b3 g) (a3 g)
      · simp [v_modP, v_lt, h8]
        refine (ix_some (get_end _ _) _ (by omega) (by simp; omega)).mono ?_
        rintro y S3 ⟨hy, rfl, _⟩
        simp at hy
        have fin : ∀ o, ∃ s : T, PV.tup [.str (Op2.sg o).str, s1.enc, s2.enc] = s.enc ∧ s.skel = true ∧ s.deep ≤ d' + 1 + 1 ∧ (∀ g ∈ s.gaps, g ∈ marks) ∧ s.gaps.length ≤ cells.length + 1 := by
          intro o
          refine ⟨.two o s1 s2, rfl, by simp [T.skel, a1, b1], by simp [T.deep]; omega, ?_, by simp [T.gaps]; omega⟩
          intro g hg
          simp [T.gaps] at hg
          exact hg.elim (a3 g) (b3 g)
        refine ⟨?_, p2'.trans (List.prefix_append _ _)⟩
        rcases hy with rfl | rfl | rfl | rfl
        · exact fin .add
        · exact fin .sub
        · exact fin .mul
        · exact fin .thn
end K71
namespace K71
open PySem Dn Pg
open L2 (atI ixN Key)
section
variable {en : En} {S : Sto} {N : En → Sto → Prop} {R : PV → Sto → Prop} {b : DS} {g : Tg}
theorem ow_range {m : DA} {S1 : Sto} (n : Nat) (P : Nat → En → Sto → Prop) (hm : m en S = .ok [.int (n : Int)] S1) (hn : n < 1000) (h0 : P 0 en S1)
    (hst : ∀ i en S, i < n → P i en S → ∃ en1, g.f (.int (i : Int)) en = some en1 ∧ OW (b en1 S) (P (i + 1)) R) (h : ∀ en S, P n en S → N en S) : OW (sFor (pRange1 m) g b en S) N R := by
  refine ow_for ((List.range n).map fun i => PV.int (i : Nat)) (fun i en S => P i en S) (P0 := fRngP 0 n) (S1 := S1) (pr1_ok hm hn) (by simp [fRngP]) h0 ?_ ?_ (fun en S hP => h en S (by simpa using hP))
  · intro i en S hi _
    simp only [fRngP, List.length_map, List.length_range] at hi ⊢
    by_cases c : i < n
    · simp [c]
    · simp [c]
  · intro i x en S hx hP
    have hi : i < n := by
      have := (List.getElem?_eq_some_iff.mp hx).1
      simpa using this
    rw [List.getElem?_map, List.getElem?_range hi] at hx
    cases hx
    exact hst i en S hi hP
end
def FD (S : Sto) (a : Nat) (marks : List Str) : Prop := ∃ θ : Str → T, S[a]? = some (.dic (dc (vE θ) marks)) ∧ ∀ g ∈ marks, piece (θ g)
theorem FD.pre {S S' : Sto} {a : Nat} {marks : List Str} (h : FD S a marks) (p : S <+: S') : FD S' a marks := by
  obtain ⟨θ, h1, h2⟩ := h
  exact ⟨θ, pre_get p h1, h2⟩
theorem FD.set {S : Sto} {a n : Nat} {marks : List Str} (h : FD S a marks) (hn : n ≠ a) (y : MO) : FD (S.set n y) a marks := by
  obtain ⟨θ, h1, h2⟩ := h
  exact ⟨θ, by rw [List.getElem?_set_ne hn]; exact h1, h2⟩
theorem dc_congr {v w : Str → PV} {gs : List Str} (h : ∀ g ∈ gs, v g = w g) : dc v gs = dc w gs := by
  unfold dc
  exact List.map_congr_left fun g hg => by rw [h g hg]
theorem dPut_upd (v : Str → PV) (g : Str) (x : PV) (gs : List Str) (h : g ∈ gs) : dPut (dc v gs) (.inr g) x = dc (fun h => if h = g then x else v h) gs := by
  unfold dPut
  rw [dc_any, if_pos (by simpa using h)]
  unfold dc
  rw [List.map_map]
  apply List.map_congr_left
  intro h' _
  by_cases e : h' = g
  · subst e; simp
  · simp [e]
theorem fillings_ok {fc fp : Fn} (wf : Nat) (S : Sto) (ns : List Int) (m : Nat) (marks : List Str) (c : Int) (hm : S[m]? = some (.lst (marks.map .str))) (hn : marks.Nodup) (hl : marks.length ≤ 5)
    (hc : ∀ S (z : Int), 0 ≤ z → ∃ c, fc [.rol (ns.map .int), .int z] S = .ok (.int c) S)
    (hp : ∀ S (c kind : Int), (kind = 0 ∨ kind = 1 ∨ kind = 2 ∨ kind = 3) → RW (fp [.int c, .int kind] S) fun v S' => (∃ t, v = t.enc ∧ piece t) ∧ S <+: S') :
    RW (fnD 3 8 (b_q_law_fillings fc fp wf) [.rol (ns.map .int), .ref m, .int c] S) fun v S' => (∃ (q : Nat) (refs : List Nat), v = .ref q ∧ S'[q]? = some (.lst (refs.map .ref)) ∧ 1 ≤ refs.length ∧ refs.length ≤ 8 ∧ ∀ a ∈ refs, FD S' a marks) ∧ S <+: S' := by
  have hml : m < S.length := (List.getElem?_eq_some_iff.mp hm).1
  refine rw_fn rfl ?_
  simp [b_q_law_fillings]
  have hc8 : 0 ≤ c % 8 := by omega
  have hc8' : c % 8 < 8 := by omega
  obtain ⟨n, hn8⟩ : ∃ n : Nat, 1 + c % 8 = (n : Int) := ⟨(1 + c % 8).toNat, by omega⟩
  refine ow_range n (fun i en S' => (∃ z4 z5 z6 z7, en = [some (.rol (ns.map .int)), some (.ref m), some (.int c), some (.ref S.length), z4, z5, z6, z7]) ∧ S <+: S' ∧ ∃ refs, S'[S.length]? = some (.lst (refs.map .ref)) ∧ refs.length = i ∧ ∀ a ∈ refs, S.length < a ∧ FD S' a marks)
    (S1 := S ++ [.lst []]) (by simp [v_modP, v_add, hn8]) (by omega) ⟨⟨_, _, _, _, rfl⟩, List.prefix_append _ _, [], by simp, rfl, by simp⟩ ?_ ?_
  · rintro i en S' hi ⟨⟨z4, z5, z6, z7, rfl⟩, hS, refs, h1, h2, h3⟩
    refine ⟨_, r_gN .., ?_⟩
    simp
    have hql : S.length < S'.length := (List.getElem?_eq_some_iff.mp h1).1
    have hm1 : (S' ++ [MO.dic []])[m]? = some (.lst (marks.map .str)) := pre_get (hS.trans (List.prefix_append _ _)) hm
    refine ow_range marks.length (fun j en S2 => (∃ z6 z7, en = [some (.rol (ns.map .int)), some (.ref m), some (.int c), some (.ref S.length), some (.int (i : Int)), some (.ref S'.length), z6, z7]) ∧ S' <+: S2 ∧
      ∃ θ : Str → T, S2[S'.length]? = some (.dic (dc (vE θ) (marks.take j))) ∧ ∀ g ∈ marks.take j, piece (θ g)) (S1 := S' ++ [.dic []]) (by simp [len_ref hm1]) (by omega) ⟨⟨_, _, rfl⟩, List.prefix_append _ _, fun _ => .gap ⟨#[]⟩, by simp [dc], by simp⟩ ?_ ?_
    · rintro j en S2 hj ⟨⟨z6, z7, rfl⟩, hS2, θ, g1, g2⟩
      refine ⟨_, r_gN .., ?_⟩
      have hj5 : j * j ≤ 4 * 4 := Nat.mul_le_mul (by omega) (by omega)
      have hjj : (j : Int) * (j : Int) = ((j * j : Nat) : Int) := by simp
      have hk0 : 0 ≤ (j : Int) * (j : Int) + 1 := by rw [hjj]; omega
      simp [v_mulP _ (j : Int) _ (by omega) (by omega), v_add, v_mulP 8 ((j : Int) * (j : Int) + 1) _ hk0 (by rw [hjj]; omega), v_divP _ (8 * ((j : Int) * (j : Int) + 1)) _ (by rw [hjj]; omega) (by rw [hjj]; omega), v_modP, v_mulP 5 (i : Int) _ (by omega) (by omega)]
      obtain ⟨c2, hc2⟩ := hc S2 (17 + 5 * (i : Int) + (j : Int)) (by omega)
      simp [hc2]
      refine (hp S2 c2 _ (by omega)).mono ?_
      rintro _ S3 ⟨⟨t, rfl, ht⟩, hS3⟩
      have hm3 : S3[m]? = some (.lst (marks.map .str)) := pre_get (hS.trans (hS2.trans hS3)) hm
      have hix : fIx (.ref m) (.int (j : Int)) S3 = .ok (.str marks[j]) S3 := by
        rw [ix_ref hm3, atN, List.getElem?_map, List.getElem?_eq_getElem hj]
        rfl
      simp [hix]
      have hgj : marks[j]? = some marks[j] := List.getElem?_eq_getElem hj
      have hnot : marks[j] ∉ marks.take j := by
        have h5 : marks.take j ++ marks.drop j = marks := List.take_append_drop j marks
        rw [← h5, List.nodup_append] at hn
        intro hm2
        exact hn.2.2 _ hm2 marks[j] (by rw [List.drop_eq_getElem_cons hj]; exact List.mem_cons_self) rfl
      have e3 := pre_get hS3 g1
      have hput := dPut_dc (vE fun h => if h = marks[j] then t else θ h) marks[j] (marks.take j) hnot
      have hcon : dc (vE fun h => if h = marks[j] then t else θ h) (marks.take j) = dc (vE θ) (marks.take j) := dc_congr fun g hg => by
        show (if g = marks[j] then t else θ g).enc = (θ g).enc
        rw [if_neg (fun e : g = marks[j] => hnot (e ▸ hg))]
      rw [hcon, show vE (fun h => if h = marks[j] then t else θ h) marks[j] = t.enc by simp [vE]] at hput
      refine ⟨S3.set S'.length (.dic (dc (vE fun h => if h = marks[j] then t else θ h) (marks.take j ++ [marks[j]]))), ?_, pre_set (hS2.trans hS3) (Nat.le_refl _) _, fun h => if h = marks[j] then t else θ h, ?_, ?_⟩
      · have hlen : (dc (vE θ) (marks.take j)).length < sizeLine := by
          rw [dc_len, List.length_take]
          simp
          omega
        simp only [fPut, e3, pvKey]
        rw [if_pos hlen, hput]
      · rw [List.getElem?_set_self (List.getElem?_eq_some_iff.mp e3).1, take_one hgj]
      · intro g hg
        rw [take_one hgj] at hg
        show piece (if g = marks[j] then t else θ g)
        by_cases e : g = marks[j]
        · rw [if_pos e]; exact ht
        · rw [if_neg e]
          rcases List.mem_append.mp hg with hg | hg
          · exact g2 g hg
          · exact absurd (List.mem_singleton.mp hg) e
    · rintro en S2 ⟨⟨z6, z7, rfl⟩, hS2, θ, g1, g2⟩
      rw [List.take_length] at g1 g2
      have h12 := pre_get hS2 h1
      simp [isLst_of h12, app_of h12 (by simp; omega)]
      refine ⟨pre_set (hS.trans hS2) (Nat.le_refl _) _, refs ++ [S'.length], ?_, by simp [h2], ?_⟩
      · rw [List.getElem?_set_self (List.getElem?_eq_some_iff.mp h12).1]
        simp
      · intro a ha
        simp at ha
        rcases ha with ha | rfl
        · exact ⟨(h3 a ha).1, ((h3 a ha).2.pre hS2).set (by have := (h3 a ha).1; omega) _⟩
        · exact ⟨hql, FD.set ⟨θ, g1, g2⟩ (by omega) _⟩
  · rintro en S' ⟨⟨z4, z5, z6, z7, rfl⟩, hS, refs, h1, h2, h3⟩
    have hm1 := pre_get hS hm
    have hql : S.length < S'.length := (List.getElem?_eq_some_iff.mp h1).1
    have fin : ∀ S2, S2[S.length]? = some (.lst (refs.map .ref)) → (∀ a ∈ refs, FD S2 a marks) → S <+: S2 → (∃ (q : Nat) (refs : List Nat), PV.ref S.length = .ref q ∧ S2[q]? = some (.lst (refs.map .ref)) ∧ 1 ≤ refs.length ∧ refs.length ≤ 8 ∧ ∀ a ∈ refs, FD S2 a marks) ∧ S <+: S2 :=
      fun S2 q1 q2 q3 => ⟨⟨S.length, refs, rfl, q1, by omega, by omega, q2⟩, q3⟩
    have fin1 := fin S' h1 (fun a ha => (h3 a ha).2) hS
    simp [len_ref hm1, v_gt]
    by_cases hm2 : 1 < marks.length
    · have hm2i : (1 : Int) < (marks.length : Int) := by omega
      by_cases h83 : 0 < c / 8 % 3
      · simp [hm2, hm2i, v_divP, v_modP, v_gt, h83]
        obtain ⟨k, hk⟩ : ∃ k : Nat, c / 8 % 3 - 1 = (k : Int) := ⟨(c / 8 % 3 - 1).toNat, by omega⟩
        have hcut : cutP (refs.map PV.ref) (some (c / 8 % 3 - 1)) none = (refs.drop (min k refs.length)).map PV.ref := by
          unfold cutP
          rw [hk, List.length_map, HT.sIx_nat, HT.sIx_none, List.map_drop, List.take_of_length_le (by simp)]
        have ix0 : ∀ S2, S <+: S2 → fIx (.ref m) (.int 0) S2 = .ok (.str marks[0]) S2 := fun S2 h => by
          rw [ix_ref (pre_get h hm), at0, List.getElem?_map, List.getElem?_eq_getElem (by omega)]
          rfl
        have ix1 : ∀ S2, S <+: S2 → fIx (.ref m) (.int 1) S2 = .ok (.str marks[1]) S2 := fun S2 h => by
          rw [ix_ref (pre_get h hm), at1, List.getElem?_map, List.getElem?_eq_getElem (by omega)]
          rfl
        refine ow_for ((refs.drop (min k refs.length)).map PV.ref) (fun i en S2 => (∃ z4 z5 z6 z7, en = [some (.rol (ns.map .int)), some (.ref m), some (.int c), some (.ref S.length), z4, z5, z6, z7]) ∧ S <+: S2 ∧ S2[S.length]? = some (.lst (refs.map .ref)) ∧ S2[S'.length]? = some (.lst ((refs.drop (min k refs.length)).map PV.ref)) ∧ ∀ a ∈ refs, S.length < a ∧ a < S'.length ∧ FD S2 a marks)
          (P0 := fLstP S'.length ((refs.drop (min k refs.length)).map PV.ref).length) (S1 := S' ++ [.lst ((refs.drop (min k refs.length)).map PV.ref)]) ?_ rfl ?_ ?_ ?_ ?_
        · have hit := v_iter_lst S'.length ((refs.drop (min k refs.length)).map PV.ref) (S' ++ [.lst ((refs.drop (min k refs.length)).map PV.ref)]) (get_end _ _)
          simp [v_divP, v_modP, cut_ref h1, hcut]
          simpa using hit
        · refine ⟨⟨_, _, _, _, rfl⟩, hS.trans (List.prefix_append _ _), pre_get (List.prefix_append _ _) h1, get_end _ _, fun a ha => ?_⟩
          obtain ⟨θ, q1, q2⟩ := (h3 a ha).2
          exact ⟨(h3 a ha).1, (List.getElem?_eq_some_iff.mp q1).1, FD.pre ⟨θ, q1, q2⟩ (List.prefix_append _ _)⟩
        · rintro i en S2 _ ⟨_, _, _, h, _⟩
          exact fLst_it _ _ _ _ h
        · rintro i x en S2 hx ⟨⟨z4, z5, z6, z7, rfl⟩, p1, p2, p3, p4⟩
          rw [List.getElem?_map] at hx
          cases q : (refs.drop (min k refs.length))[i]? with
          | none => rw [q] at hx; cases hx
          | some a =>
            rw [q] at hx
            cases hx
            have har : a ∈ refs := List.mem_of_mem_drop (List.mem_of_getElem? q)
            obtain ⟨l1, l2, θ, q1, q2⟩ := p4 a har
            have mm0 : marks[0] ∈ marks := List.getElem_mem _
            have mm1 : marks[1] ∈ marks := List.getElem_mem _
            refine ⟨_, r_gN .., ?_⟩
            simp [ix0 _ p1, ix1 _ p1, ix_dic q1 mm1]
            have hput := dPut_upd (vE θ) marks[0] (vE θ marks[1]) marks mm0
            have hfun : (fun h => if h = marks[0] then vE θ marks[1] else vE θ h) = vE fun h => if h = marks[0] then θ marks[1] else θ h := by
              funext h
              by_cases e : h = marks[0]
              · simp [vE, e]
              · simp [vE, e]
            rw [hfun] at hput
            refine ⟨S2.set a (.dic (dc (vE fun h => if h = marks[0] then θ marks[1] else θ h) marks)), ?_, pre_set p1 (by omega) _, ?_, ?_, ?_⟩
            · have hlen : (dc (vE θ) marks).length < sizeLine := by
                rw [dc_len]
                simp
                omega
              simp only [fPut, q1, pvKey]
              rw [if_pos hlen, hput]
            · rw [List.getElem?_set_ne (by omega)]; exact p2
            · rw [List.getElem?_set_ne (by omega)]; simpa using p3
            · intro a' ha'
              obtain ⟨r1, r2, r3⟩ := p4 a' ha'
              refine ⟨r1, r2, ?_⟩
              by_cases e : a = a'
              · subst e
                refine ⟨fun h => if h = marks[0] then θ marks[1] else θ h, List.getElem?_set_self (List.getElem?_eq_some_iff.mp q1).1, fun g hg => ?_⟩
                show piece (if g = marks[0] then θ marks[1] else θ g)
                split
                · exact q2 _ mm1
                · exact q2 g hg
              · exact r3.set e _
        · rintro en S2 ⟨⟨z4, z5, z6, z7, rfl⟩, p1, p2, p3, p4⟩
          simpa using fin S2 p2 (fun a ha => (p4 a ha).2.2) p1
      · simp [hm2, hm2i, v_divP, v_modP, v_gt, h83]
        simpa using fin1
    · have hm2i : ¬ (1 : Int) < (marks.length : Int) := by omega
      simp [hm2i]
      simpa using fin1
end K71
namespace K71
open PySem Dn Pg
open L2 (atI ixN Key)
theorem data_strs (S : Sto) (n : Nat) (gs : List Str) : optAll ((gs.map PV.str).map (data S n)) = some (gs.map PyData.str) := by
  rw [List.map_map]
  exact optAll_map _ PyData.str gs fun g _ => by simp [data]
theorem lay_strs (gs : List Str) (h : ∀ g ∈ gs, PyData.strOk g = true) : SeqAt.shaped (.list (gs.map PyData.str)) = true := by
  have h1 : PyData.canLayAll0 (gs.map PyData.str) = true := by
    induction gs with
    | nil => rfl
    | cons g gs ih => simp [PyData.canLayAll0, PyData.canLay0, h g List.mem_cons_self, ih fun u hu => h u (List.mem_cons_of_mem _ hu)]
  have h2 : PyData.depthAll (gs.map PyData.str) = 0 := by
    clear h h1
    induction gs with
    | nil => rfl
    | cons g gs ih => simp [PyData.depthAll, PyData.depth, ih]
  simp [SeqAt.shaped, PyData.canLay0, h1, PyData.depth, h2]
theorem ne_strs (S : Sto) (a b : Nat) (gs : List Str) (h1 : S[a]? = some (.lst (gs.map .str))) (h2 : S[b]? = some (.lst [])) (ho : ∀ g ∈ gs, PyData.strOk g = true) : fNe (.ref a) (.ref b) S = .ok (!decide (gs = [])) S := by
  have e1 : data S 64 (.ref a) = some (.list (gs.map PyData.str)) := by
    unfold data
    simp only [h1]
    rw [data_strs]
    rfl
  have e2 : data S 64 (.ref b) = some (.list []) := by
    unfold data
    simp only [h2]
    rfl
  simp only [fNe, fEq, fEqD, e1, e2, lay_strs gs ho, show SeqAt.shaped (.list []) = true from rfl, Bool.and_self, if_true, PyData.eqv]
  cases gs <;> simp [PyData.eqvAll, rNot]
def pairD (p : T × T) : PyData := .tuple [p.1.dat, p.2.dat]
theorem data_prs (S : Sto) (a : Nat) (prs : List (T × T)) (h : S[a]? = some (.lst (prs.map pairE))) (ho : ∀ p ∈ prs, p.1.ok ∧ p.2.ok) : data S 64 (.ref a) = some (.list (prs.map pairD)) := by
  unfold data
  simp only [h]
  rw [List.map_map, optAll_map (data S 63 ∘ pairE) pairD prs fun p hp => by
    have h1 := (ho p hp).1.2
    have h2 := (ho p hp).2.2
    simp [pairE, pairD, data, optAll, data_enc S p.1 62 (by omega), data_enc S p.2 62 (by omega)]]
  rfl
theorem shaped_prs (prs : List (T × T)) (ho : ∀ p ∈ prs, p.1.ok ∧ p.2.ok) : SeqAt.shaped (.list (prs.map pairD)) = true := by
  have h1 : PyData.canLayAll0 (prs.map pairD) = true := by
    induction prs with
    | nil => rfl
    | cons p prs ih => simp [PyData.canLayAll0, PyData.canLay0, pairD, lay_dat _ (ho p List.mem_cons_self).1.1, lay_dat _ (ho p List.mem_cons_self).2.1, ih fun u hu => ho u (List.mem_cons_of_mem _ hu)]
  have h2 : PyData.depthAll (prs.map pairD) ≤ 22 := by
    clear h1
    induction prs with
    | nil => simp [PyData.depthAll]
    | cons p prs ih =>
      have e1 := deep_dat p.1
      have e2 := deep_dat p.2
      have e3 := (ho p List.mem_cons_self).1.2
      have e4 := (ho p List.mem_cons_self).2.2
      have e5 := ih fun u hu => ho u (List.mem_cons_of_mem _ hu)
      simp [PyData.depthAll, PyData.depth, pairD]
      omega
  simp [SeqAt.shaped, PyData.canLay0, h1, PyData.depth]
  omega
theorem eqv_prs : ∀ prs : List (T × T), PyData.eqvAll (prs.map pairD) (prs.map pairD) = true
  | [] => by simp [PyData.eqvAll]
  | p :: prs => by simp [q_cons, q_tup, q_nil, pairD, eqv_dat, eqv_prs prs]
theorem ne_prs (S : Sto) (a b : Nat) (prs : List (T × T)) (h1 : S[a]? = some (.lst (prs.map pairE))) (h2 : S[b]? = some (.lst (prs.map pairE))) (ho : ∀ p ∈ prs, p.1.ok ∧ p.2.ok) : fNe (.ref a) (.ref b) S = .ok false S := by
  simp only [fNe, fEq, fEqD, data_prs S a prs h1 ho, data_prs S b prs h2 ho, shaped_prs prs ho, Bool.and_self, if_true, PyData.eqv, eqv_prs, rNot, Bool.not_true]
theorem cut_len (l : List Int) (a b : Nat) : ∃ cs : List Int, cutP (l.map .int) (some (a : Int)) (some (b : Int)) = cs.map .int ∧ cs.length ≤ b - a := by
  refine ⟨(l.drop (min a l.length)).take (min b l.length - min a l.length), ?_, ?_⟩
  · unfold cutP
    rw [List.length_map, HT.sIx_nat, HT.sIx_nat, List.map_take, List.map_drop]
  · rw [List.length_take]
    omega
def marks5 : List Str := [Str.ofString "a", Str.ofString "x", Str.ofString "many", Str.ofString "z", Str.ofString "g"]
theorem marks5_fine : ∀ g ∈ marks5, PyData.strOk g = true := by decide +kernel
theorem marks5_nodup : marks5.Nodup := by decide +kernel
theorem law_ok {fc ff fl fg fs ft fr : Fn} (wf : Nat) (S : Sto) (ns : List Int)
    (hc : ∀ S (z : Int), 0 ≤ z → ∃ c, fc [.rol (ns.map .int), .int z] S = .ok (.int c) S)
    (hs : MkOk fs 4) (hg : GapsOk fg 7) (hf : FilledOk ff 7)
    (hfl : ∀ S m marks c, S[m]? = some (.lst (marks.map .str)) → marks.Nodup → marks.length ≤ 5 → RW (fl [.rol (ns.map .int), .ref m, .int c] S) fun v S' => (∃ (q : Nat) (refs : List Nat), v = .ref q ∧ S'[q]? = some (.lst (refs.map .ref)) ∧ 1 ≤ refs.length ∧ refs.length ≤ 8 ∧ ∀ a ∈ refs, FD S' a marks) ∧ S <+: S')
    (hr : ∀ L R σ, Given L R σ → ∀ j0 js S p, S[p]? = some (.lst ((prsOf L R σ (j0 :: js)).map pairE)) → (j0 :: js).length ≤ 8 → RW (fr [.ref p] S) fun v S' => v = ruleOf L R σ j0 js ∧ S <+: S')
    (ht : ∀ L R σ, Given L R σ → ∀ j0 js S p m ks, (j0 :: js).take m = j0 :: ks → (j0 :: ks).length = m → m < 100 → (∀ j ∈ js, j ∈ j0 :: ks) → S[p]? = some (.lst ((prsOf L R σ (j0 :: ks)).map pairE)) → RW (ft [ruleOf L R σ j0 js, .ref p] S) fun v S' => v = .bl true ∧ S <+: S') :
    RW (fnD 1 10 (b_q_law fc ff fl fg fs ft fr wf) [.rol (ns.map .int)] S) fun v _ => v = .bl true := by
  obtain ⟨c0, e0⟩ := hc S 0 (by omega)
  have q1 : 0 ≤ c0 / 8 % 5 := by omega
  have q2 : c0 / 8 % 5 < 5 := by omega
  obtain ⟨n, hn⟩ : ∃ n : Nat, 1 + c0 / 8 % 5 = (n : Int) := ⟨(1 + c0 / 8 % 5).toNat, by omega⟩
  have hcut : cutP (marks5.map PV.str) none (some (n : Int)) = (marks5.take n).map PV.str := by
    unfold cutP
    rw [HT.sIx_nat, HT.sIx_none, List.length_map, List.map_take, Nat.min_eq_left (show n ≤ marks5.length by have : marks5.length = 5 := rfl; omega)]
    simp
  generalize hmk : marks5.take n = marks at hcut
  have hmf : ∀ g ∈ marks, PyData.strOk g = true := fun g hg => marks5_fine g (List.mem_of_mem_take (by rw [hmk]; exact hg))
  have hmn : marks.Nodup := by rw [← hmk]; exact marks5_nodup.sublist (List.take_sublist _ _)
  have hml : marks.length ≤ 5 := by rw [← hmk]; exact Nat.le_trans (List.length_take_le' _ _) (Nat.le_refl 5)
  have hm0 : marks ≠ [] := by
    intro h
    have h6 : (marks5.take n).length = min n 5 := by rw [List.length_take]; rfl
    rw [hmk, h, List.length_nil] at h6
    omega
  have cut5 : fCut (.ref S.length) none (some (n : Int)) (S ++ [MO.lst [PV.str (Str.ofString "a"), .str (Str.ofString "x"), .str (Str.ofString "many"), .str (Str.ofString "z"), .str (Str.ofString "g")]]) = .ok (.ref (S.length + 1)) (S ++ [MO.lst (marks5.map PV.str)] ++ [.lst (marks.map PV.str)]) := by
    have := cut_ref (get_end S (MO.lst (marks5.map PV.str))) none (some (n : Int))
    rw [hcut] at this
    show fCut (.ref S.length) none (some (n : Int)) (S ++ [MO.lst (marks5.map PV.str)]) = _
    rw [this]
    simp
  have cutR : ∀ (S : Sto) (lo hi : Option Int), fCut (.rol (ns.map PV.int)) lo hi S = .ok (.ref S.length) (S ++ [.lst (cutP (ns.map PV.int) lo hi)]) := fun _ _ _ => rfl
  obtain ⟨cs1, d1, l1⟩ := cut_len ns 2 8
  obtain ⟨cs2, d2, l2⟩ := cut_len ns 8 13
  obtain ⟨cs3, d3, l3⟩ := cut_len ns 13 17
  simp only [Int.cast_ofNat_Int] at d1 d2 d3
  refine rw_fn rfl ?_
  unfold b_q_law
  refine ow_seq ?_
  simp [-o_seq, e0]
  refine ow_seq ?_
  simp [-o_seq, v_divP, v_modP, v_add, hn, cut5]
  generalize hS1 : S ++ [MO.lst (marks5.map PV.str), .lst (marks.map PV.str)] = S1
  have hm1 : S1[S.length + 1]? = some (.lst (marks.map .str)) := by rw [← hS1]; simp
  refine ow_seq ?_
  simp [-o_seq, cutR, d1]
  refine (hs cs1 4 (S1 ++ [.lst (cs1.map .int)]) S1.length (S.length + 1) marks (Nat.le_refl _) (by omega) (get_end _ _) (pre_get (List.prefix_append _ _) hm1) hm0).mono ?_
  rintro _ S2 ⟨⟨s1, rfl, a1, a2, a3, a4⟩, p2⟩
  simp [-o_seq, cutR, d2]
  have hm2 := pre_get ((List.prefix_append _ _).trans p2) hm1
  refine (hs cs2 4 (S2 ++ [.lst (cs2.map .int)]) S2.length (S.length + 1) marks (Nat.le_refl _) (by omega) (get_end _ _) (pre_get (List.prefix_append _ _) hm2) hm0).mono ?_
  rintro _ S3 ⟨⟨s2, rfl, b1, b2, b3, b4⟩, p3⟩
  have hm3 := pre_get ((List.prefix_append _ _).trans p3) hm2
  refine ow_seq ?_
  simp [-o_seq]
  have hLd : (T.two .add s1 s2).deep ≤ 7 := by simp [T.deep]; omega
  have hLg : ∀ g ∈ (T.two .add s1 s2).gaps, g ∈ marks := by
    intro g hg
    simp [T.gaps] at hg
    exact hg.elim (a3 g) (b3 g)
  have hLl : (T.two .add s1 s2).gaps.length ≤ 13 := by simp [T.gaps]; omega
  have eL : PV.tup [.str Sg.add.str, s1.enc, s2.enc] = (T.two .add s1 s2).enc := rfl
  have hLs : (T.two .add s1 s2).skel = true := by simp [T.skel, a1, b1]
  have hLt : ∃ o a b, (T.two .add s1 s2) = .two o a b := ⟨_, _, _, rfl⟩
  rw [eL]
  generalize (T.two .add s1 s2) = L at hLd hLg hLl hLs hLt
  refine (hg L S3 hLd (by omega)).mono ?_
  rintro _ S4 ⟨⟨ak, rfl, hk⟩, p4⟩
  have hm4 := pre_get p4 hm3
  refine ow_seq ?_
  simp [-o_seq]
  refine ow_seq ?_
  refine OW.mono (N := fun en S' => (∃ R : T, en = [some (.rol (ns.map PV.int)), some (.int c0), some (.ref (S.length + 1)), some L.enc, some (.ref ak), some R.enc, none, none, none, none] ∧ R.skel = true ∧ R.deep ≤ 7 ∧ (∀ g ∈ R.gaps, g ∈ L.gaps) ∧ R.gaps.length ≤ 5) ∧ S4 <+: S') (R := fun _ _ => False) ?_ ?_ (fun _ _ h => h.elim)
  · simp
    rw [ne_strs _ ak S4.length L.gaps (pre_get (List.prefix_append _ _) hk) (get_end _ _) (fun g hg => hmf g (hLg g hg))]
    by_cases hL0 : L.gaps = []
    · simp [hL0]
      exact ⟨.lf (.num 7), rfl, rfl, by simp [T.deep], by simp [T.gaps], by simp [T.gaps]⟩
    · simp [hL0, cutR, d3]
      refine (hs cs3 3 (S4 ++ [.lst [], .lst (cs3.map .int)]) (S4.length + 1) ak L.gaps (by omega) (by omega) (by simp) (pre_get (List.prefix_append _ _) hk) hL0).mono ?_
      rintro _ S5 ⟨⟨r, rfl, t1, t2, t3, t4⟩, p5⟩
      exact ⟨⟨r, rfl, t1, by omega, t3, by omega⟩, (List.prefix_append _ _).trans p5⟩
  · rintro en S5 ⟨⟨R, rfl, r1, r2, r3, r4⟩, p5⟩
    refine ow_seq ?_
    simp [-o_seq]
    have hm5 := pre_get p5 hm4
    obtain ⟨c1, e1⟩ := hc (S5 ++ [.lst []]) 1 (by omega)
    obtain ⟨_, S6, hv, ⟨q, refs, rfl, g1, g2, g3, g4⟩, p6⟩ := hfl (S5 ++ [.lst []]) (S.length + 1) marks c1 (pre_get (List.prefix_append _ _) hm5) hmn hml
    have hp6 : S6[S5.length]? = some (.lst []) := pre_get p6 (get_end _ _)
    have hch : ∀ k : Nat, ∃ θ : Str → T, (∀ a, refs[k]? = some a → S6[a]? = some (.dic (dc (vE θ) marks))) ∧ ∀ g ∈ marks, piece (θ g) := by
      intro k
      cases hk2 : refs[k]? with
      | some a =>
        obtain ⟨θ, u1, u2⟩ := g4 a (List.mem_of_getElem? hk2)
        exact ⟨θ, fun b hb => by cases hb; exact u1, u2⟩
      | none =>
        obtain ⟨θ, u1, u2⟩ := g4 refs[0] (List.getElem_mem (by omega))
        exact ⟨θ, (fun b hb => by cases hb), u2⟩
    obtain ⟨σ, hσ⟩ := Classical.axiomOfChoice hch
    have hG : Given L R σ := ⟨hLs, r1, hLt, hLd, r2, r3, fun k g hgg => (hσ k).2 g (hLg g hgg), by omega⟩
    have hqp : q ≠ S5.length := by
      intro e
      rw [e, hp6] at g1
      have := Option.some.inj g1
      injection this with this
      have h7 := congrArg List.length this
      simp at h7
      omega
    have hokp : ∀ J : List Nat, ∀ p ∈ prsOf L R σ J, p.1.ok ∧ p.2.ok := by
      intro J p hp
      obtain ⟨k, _, rfl⟩ := List.mem_map.mp hp
      exact ⟨(fitL hG k).1, (fitR hG k).1⟩
    refine ow_seq (ow_for (refs.map PV.ref) (fun i en S' => (∃ z7, en = [some (.rol (ns.map PV.int)), some (.int c0), some (.ref (S.length + 1)), some L.enc, some (.ref ak), some R.enc, some (.ref S5.length), z7, none, none]) ∧ Fr S5.length S6 S' ∧ S'[S5.length]? = some (.lst ((prsOf L R σ (List.range i)).map pairE)))
      (P0 := fLstP q (refs.map PV.ref).length) (S1 := S6) ?_ rfl ⟨⟨_, rfl⟩, Fr.rfl' _ _, hp6⟩ ?_ ?_ ?_)
    · have hit := v_iter_lst q (refs.map PV.ref) S6 g1
      simp [e1, hv]
      simpa using hit
    · rintro i en S' _ ⟨_, hF, _⟩
      exact fLst_it _ _ _ _ (hF.get g1 hqp)
    · rintro i x en S' hx ⟨⟨z7, rfl⟩, hF, hP⟩
      rw [List.getElem?_map] at hx
      cases hk2 : refs[i]? with
      | none => rw [hk2] at hx; cases hx
      | some a =>
        rw [hk2] at hx
        cases hx
        have hda := (hσ i).1 a hk2
        have hap : a ≠ S5.length := by
          intro e
          rw [e, hp6] at hda
          cases hda
        have hda' := hF.get hda hap
        have hi8 : i < 8 := by have := (List.getElem?_eq_some_iff.mp hk2).1; omega
        refine ⟨_, r_gN .., ?_⟩
        simp [isLst_of hP]
        refine (hf L S' a (σ i) marks hLd hda' hLg).mono ?_
        rintro _ S8 ⟨rfl, p8⟩
        refine (hf R S8 a (σ i) marks r2 (pre_get p8 hda') (fun g hg => hLg g (r3 g hg))).mono ?_
        rintro _ S9 ⟨rfl, p9⟩
        have hP9 := pre_get (p8.trans p9) hP
        rw [app_of hP9 (by simp [prsOf]; omega)]
        simp
        refine ⟨?_, ?_⟩
        · have f9 : Fr S5.length S6 S9 := hF.trans (Fr.of_pre (p8.trans p9))
          exact ⟨by simpa using f9.1, fun k hk hkn => by rw [List.getElem?_set_ne (fun e => hkn e.symm)]; exact f9.2 k hk hkn⟩
        · rw [List.getElem?_set_self (List.getElem?_eq_some_iff.mp hP9).1]
          simp [prsOf, List.range_succ, pairE]
    · rintro en S7 ⟨⟨z7, rfl⟩, hF7, h7⟩
      rw [List.length_map] at h7
      obtain ⟨nn, hnn⟩ : ∃ nn, refs.length = nn + 1 := ⟨refs.length - 1, by omega⟩
      rw [hnn, List.range_succ_eq_map] at h7
      have hjl : ((List.range nn).map Nat.succ).length = nn := by simp
      generalize hjs : (List.range nn).map Nat.succ = js at h7 hjl
      have hlist : fList [.ref S5.length] S7 = .ok (.ref S7.length) (S7 ++ [.lst ((prsOf L R σ (0 :: js)).map pairE)]) := by simp [fList, lstAt, h7]
      refine ow_seq ?_
      simp [-o_seq, hlist]
      refine ow_seq ?_
      simp [-o_seq]
      refine (hr L R σ hG 0 js _ S7.length (get_end _ _) (by simp; omega)).mono ?_
      rintro _ S8 ⟨rfl, p8⟩
      have h8 := pre_get ((List.prefix_append _ _).trans p8) h7
      have hh8 := pre_get p8 (get_end S7 (.lst ((prsOf L R σ (0 :: js)).map pairE)))
      have T1 : ∀ S, S[S5.length]? = some (.lst ((prsOf L R σ (0 :: js)).map pairE)) → RW (ft [ruleOf L R σ 0 js, .ref S5.length] S) fun v S' => v = .bl true ∧ S <+: S' := fun S h => ht L R σ hG 0 js S S5.length (nn + 1) js (by rw [List.take_of_length_le (by simp; omega)]) (by simp; omega) (by omega) (fun j hj => List.mem_cons_of_mem _ hj) h
      have P8 : (prsOf L R σ (0 :: js)).length = nn + 1 := by simp [prsOf, hjl]
      refine ow_seq ?_
      simp [-o_seq]
      refine (T1 S8 h8).mono ?_
      rintro _ S9 ⟨rfl, p9⟩
      have h9 := pre_get p9 h8
      have hh9 := pre_get p9 hh8
      simp [-o_seq, ne_prs S9 S7.length S5.length _ hh9 h9 (hokp _)]
      refine ow_seq ?_
      refine OW.mono (N := fun en S' => (∃ z7, en = [some (.rol (ns.map PV.int)), some (.int c0), some (.ref (S.length + 1)), some L.enc, some (.ref ak), some R.enc, some (.ref S5.length), z7, some (.ref S7.length), some (ruleOf L R σ 0 js)]) ∧ S9 <+: S') (R := fun v _ => v = .bl true) ?_ ?_ (fun _ _ h => h)
      · simp [len_ref h9, P8, v_gt]
        by_cases hn1 : 0 < nn
        · have hn1i : (1 : Int) < (nn : Int) + 1 := by omega
          have hjl0 : js ≠ [] := by intro h; rw [h] at hjl; simp at hjl; omega
          obtain ⟨j1, js1, hj1⟩ : ∃ j1 js1, js = j1 :: js1 := by
            cases js with
            | nil => exact absurd rfl hjl0
            | cons a b => exact ⟨a, b, rfl⟩
          have hcut1 : cutP ((prsOf L R σ (0 :: js)).map pairE) (some 1) none = (prsOf L R σ (j1 :: js1)).map pairE := by
            unfold cutP
            rw [show (1 : Int) = ((1 : Nat) : Int) from rfl, HT.sIx_nat, HT.sIx_none, List.length_map, P8, Nat.min_eq_left (by omega), List.take_of_length_le (by simp [P8]), hj1]
            rfl
          have hjl1 : js1.length + 1 = nn := by rw [hj1] at hjl; simpa using hjl
          simp [hn1i, hn1, cut_ref h9, hcut1]
          refine (hr L R σ hG j1 js1 (S9 ++ [.lst ((prsOf L R σ (j1 :: js1)).map pairE)]) S9.length (get_end _ _) (by simp; omega)).mono ?_
          rintro _ S10 ⟨rfl, p10⟩
          have p10' := (List.prefix_append _ _).trans p10
          have h10 := pre_get p10' h9
          simp [cut_ref h10, hcut1]
          refine (ht L R σ hG j1 js1 (S10 ++ [.lst ((prsOf L R σ (j1 :: js1)).map pairE)]) S10.length nn js1 (by rw [List.take_of_length_le (by simp; omega)]) (by simp; omega) (by omega) (fun j hj => List.mem_cons_of_mem _ hj) (get_end _ _)).mono ?_
          rintro _ S11 ⟨rfl, p11⟩
          have p11' := (p10'.trans (List.prefix_append _ _)).trans p11
          simp
          refine (T1 S11 (pre_get p11' h9)).mono ?_
          rintro _ S12 ⟨rfl, p12⟩
          simp
          exact p11'.trans p12
        · have hn1i : ¬ (1 : Int) < (nn : Int) + 1 := by omega
          simp [hn1i, hn1]
      · rintro en S10 ⟨⟨z7, rfl⟩, p10⟩
        have h10 := pre_get p10 h9
        refine ow_seq ?_
        simp [-o_seq, len_ref h10, P8]
        by_cases hn8 : (nn : Int) + 1 = 8
        · simp [hn8]
        · simp [hn8]
          have hcut0 : cutP ((prsOf L R σ (0 :: js)).map pairE) none (some 1) = (prsOf L R σ [0]).map pairE := by
            unfold cutP
            rw [show (1 : Int) = ((1 : Nat) : Int) from rfl, HT.sIx_nat, HT.sIx_none, List.length_map, P8, Nat.min_eq_left (by omega)]
            simp [prsOf]
          have hadd : (prsOf L R σ (0 :: js)).map pairE ++ (prsOf L R σ [0]).map pairE = (prsOf L R σ (0 :: (js ++ [0]))).map pairE := by
            rw [← List.map_append]
            unfold prsOf
            rw [← List.map_append]
            rfl
          rw [cut_ref h10, hcut0]
          have ha1 : (S10 ++ [MO.lst ((prsOf L R σ [0]).map pairE)])[S5.length]? = some (.lst ((prsOf L R σ (0 :: js)).map pairE)) := pre_get (List.prefix_append _ _) h10
          have hadd2 := add_ref ha1 (get_end S10 (MO.lst ((prsOf L R σ [0]).map pairE))) (by simp [prsOf, hjl]; omega)
          rw [hadd] at hadd2
          simp only [RW.ok, hadd2]
          refine (hr L R σ hG 0 (js ++ [0]) _ _ (get_end _ _) (by simp; omega)).mono ?_
          rintro _ S11 ⟨rfl, p11⟩
          have h11 := pre_get p11 (pre_get (List.prefix_append _ _) ha1)
          refine (ht L R σ hG 0 (js ++ [0]) S11 S5.length (nn + 1) js (by rw [List.take_succ_cons, List.take_left' hjl]) (by simp; omega) (by omega) (fun j hj => ?_) h11).mono (fun v _ h => h.1)
          rcases List.mem_append.mp hj with hj | hj
          · exact List.mem_cons_of_mem _ hj
          · rw [List.mem_singleton.mp hj]; exact List.mem_cons_self
end K71
namespace K71
open PySem Dn Pg
open L2 (atI ixN Key)
def wfuel : Nat := 2
abbrev r (k i : Nat) : Fn := run wfuel k i
theorem dpos (t : T) : 0 < t.deep := by cases t <;> simp [T.deep]
theorem p_parts (k : Nat) (u : T) (S : Sto) : r (k + 1) 0 [u.enc] S = .ok (.tup (u.parts.map T.enc)) S := parts_ok wfuel S u
theorem p_with (k : Nat) (u : T) (S : Sto) (n : Nat) (xs : List PV) (h : S[n]? = some (.lst xs)) (hl : xs.length < 100) : r (k + 1) 1 [u.enc, .ref n] S = .ok (u.wp xs) S := with_parts_ok wfuel S u n xs h hl
theorem p_gather : ∀ (k : Nat) (u : T) (S : Sto) (n : Nat), u.deep ≤ k → u.nameless = true → r (k + 1) 2 [u.enc, .tup [], .ref n] S = .ok .non S
  | 0, u, S, n, h, _ => by have := dpos u; omega
  | k + 1, u, S, n, h, hn => by
    refine gather_ok (fp := r (k + 1) 0) (fs := r (k + 1) 2) wfuel u S (p_parts k) n hn fun v hv => p_gather k v S n (by have := T.deep_part hv; omega) ?_
    cases u <;> simp [T.parts] at hv <;> simp [T.nameless] at hn
    case one a => subst hv; exact hn
    case two o a b => rcases hv with rfl | rfl; exact hn.1; exact hn.2
    case thr a b c => rcases hv with rfl | rfl | rfl; exact hn.1; exact hn.2.1; exact hn.2.2
theorem p_every : ∀ (k : Nat) (u : T) (S : Sto), u.deep ≤ k → u.gaps.length ≤ 10000 → r (k + 1) 5 [u.enc] S = .ok (.ref S.length) (S ++ .lst (u.gaps.map gapE) :: u.egr)
  | 0, u, S, h, _ => by have := dpos u; omega
  | k + 1, u, S, h, hl => by
    refine every_gap_ok (fp := r (k + 1) 0) (fs := r (k + 1) 5) wfuel u S (p_parts k) hl fun v hv S => p_every k v S (by have := T.deep_part hv; omega) ?_
    cases u <;> simp [T.parts] at hv <;> simp [T.gaps] at hl
    case one a => subst hv; exact hl
    case two o a b => rcases hv with rfl | rfl <;> omega
    case thr a b c => rcases hv with rfl | rfl | rfl <;> omega
theorem p_bound : ∀ (k : Nat) (u : T) (S : Sto), u.deep ≤ k → r (k + 1) 10 [u.enc] S = .ok (.ref S.length) (S ++ .lst [] :: u.bnr)
  | 0, u, S, h => by have := dpos u; omega
  | k + 1, u, S, h => bound_names_ok (fp := r (k + 1) 0) (fs := r (k + 1) 10) wfuel u S (p_parts k) fun v hv S => p_bound k v S (by have := T.deep_part hv; omega)
theorem p_let : ∀ (k : Nat) (u : T) (S : Sto), u.deep ≤ k → r (k + 1) 17 [u.enc] S = .ok (.bl false) S
  | 0, u, S, h => by have := dpos u; omega
  | k + 1, u, S, h => has_let_ok (fp := r (k + 1) 0) (fs := r (k + 1) 17) wfuel u S (p_parts k) fun v hv => p_let k v S (by have := T.deep_part hv; omega)
theorem p_loud : ∀ (k : Nat) (u : T) (S : Sto), u.deep ≤ k → r (k + 1) 9 [u.enc] S = .ok (.bl u.loud) S
  | 0, u, S, h => by have := dpos u; omega
  | k + 1, u, S, h => is_loud_ok (fp := r (k + 1) 0) (fs := r (k + 1) 9) wfuel u S (p_parts k) fun v hv => p_loud k v S (by have := T.deep_part hv; omega)
theorem p_quiet : ∀ (k : Nat) (u : T) (S : Sto) (z : PV), (z = .non ∨ z = .tup []) → u.deep ≤ k → u.fit → r (k + 1) 8 [u.enc, z] S = .ok (.bl (!u.loud)) S
  | 0, u, S, z, _, h, _ => by have := dpos u; omega
  | k + 1, u, S, z, hz, h, hf => is_quiet_ok (fp := r (k + 1) 0) (fs := r (k + 1) 8) (fk := r (k + 1) 7) wfuel u S (p_parts k) z hz hf.2 fun v hv => p_quiet k v S _ (.inr rfl) (by have := T.deep_part hv; omega) (fit_part hv hf)
theorem p_lloud : ∀ (k : Nat) (u : T) (S : Sto), u.deep ≤ k → u.fit → r (k + 1) 30 [u.enc] S = .ok (.bl u.loud) S
  | 0, u, S, h, _ => by have := dpos u; omega
  | k + 1, u, S, h, hf => by
    obtain ⟨v, S', e, rfl, rfl⟩ := law_loud_ok (f := r (k + 1) 30) wfuel u S hf.2 fun v hv => p_lloud k v S (by have := T.deep_part hv; omega) (fit_part hv hf)
    exact e
theorem p_shape : ∀ k : Nat, ShapeOk (r (k + 1) 20) k
  | 0 => fun t ts S a n rows refs hD => by have := dpos t; omega
  | k + 1 => shared_shape_ok (fw := r (k + 1) 4) (fh := r (k + 1) 19) (fs := r (k + 1) 20) (fp := r (k + 1) 0) (fq := r (k + 1) 1) wfuel k (p_parts k) (fun S n h => word_by_ok 0 S n h) (fun u S n xs h hl => p_with k u S n xs h hl) (fun S a t ts ha hp => same_heads_ok wfuel S a t ts ha hp) (p_shape k)
theorem p_fit : ∀ k : Nat, FitOk (r (k + 1) 29) k
  | 0 => fun s S n gs θ hD => by have := dpos s; omega
  | k + 1 => fit_ok (f := r (k + 1) 29) wfuel k (p_fit k)
theorem p_filled : ∀ k : Nat, FilledOk (r (k + 1) 28) k
  | 0 => fun s S n θ marks hD => by have := dpos s; omega
  | k + 1 => filled_ok (f := r (k + 1) 28) wfuel k (p_filled k)
theorem p_gaps : ∀ k : Nat, GapsOk (r (k + 1) 25) k
  | 0 => fun s S hD => by have := dpos s; omega
  | k + 1 => law_gaps_ok (f := r (k + 1) 25) wfuel k (p_gaps k)
theorem p_mk : ∀ k D : Nat, D ≤ k → MkOk (r (k + 1) 24) D
  | 0, D, h => shape_ok (f := r 0 24) wfuel D fun D' hD => by omega
  | k + 1, D, h => shape_ok (f := r (k + 1) 24) wfuel D fun D' hD => p_mk k D' (by omega)
theorem ShapeOk.le {f : Fn} {D D' : Nat} (h : ShapeOk f D) (hd : D' ≤ D) : ShapeOk f D' := fun t ts S a n rows refs hD => h t ts S a n rows refs (Nat.le_trans hD hd)
theorem FitOk.le {f : Fn} {D D' : Nat} (h : FitOk f D) (hd : D' ≤ D) : FitOk f D' := fun s S n gs θ hD => h s S n gs θ (Nat.le_trans hD hd)
theorem FilledOk.le {f : Fn} {D D' : Nat} (h : FilledOk f D) (hd : D' ≤ D) : FilledOk f D' := fun s S n θ marks hD => h s S n θ marks (Nat.le_trans hD hd)
theorem GapsOk.le {f : Fn} {D D' : Nat} (h : GapsOk f D) (hd : D' ≤ D) : GapsOk f D' := fun s S hD => h s S (Nat.le_trans hD hd)
theorem p_gapsof (k : Nat) (hk : 20 ≤ k) (u : T) (S : Sto) (hd : u.deep ≤ 20) (hl : u.gaps.length ≤ 5000) : RW (r (k + 2) 6 [u.enc] S) fun v S' => v = .ref S.length ∧ S <+: S' ∧ S'[S.length]? = some (.dic (dc zero (dd u.gaps))) :=
  gaps_of_ok (fe := r (k + 1) 5) wfuel u S hl fun S => p_every k u S (by omega) (by omega)
theorem p_why (k : Nat) (hk : 20 ≤ k) (l r' : T) (ks : List (Str × Str)) (S : Sto) (hdl : l.deep ≤ 20) (hdr : r'.deep ≤ 20) (hpl : l.parts ≠ []) (hll : l.gaps.length ≤ 5000) (hrl : r'.gaps.length ≤ 5000) (hnl : l.nameless = true) (hnr : r'.nameless = true)
    (hsub : ∀ g ∈ r'.gaps, g ∈ l.gaps) (hks : ∀ k ∈ ks, k.1 ∈ l.gaps) (hlo : r'.loud = true → l.loud = true) : RW (r (k + 5) 16 [.tup [l.enc, r'.enc, .tup (ks.map kindE)]] S) fun v S' => v = .non ∧ S <+: S' := by
  refine form_ok (fo := r (k + 4) 15) wfuel S l.enc r'.enc (.tup (ks.map kindE)) ?_
  refine why_none_ok (fa := r (k + 3) 3) (fb := r (k + 3) 11) (fg := r (k + 3) 6) (fo := r (k + 3) 9) (fk := r (k + 3) 14) (fl := r (k + 3) 12) (fr := r (k + 3) 13) (fp := r (k + 3) 0) wfuel S l r' ks hpl hll hrl hnl hnr hdl hdr hsub hks hlo (p_parts _) (fun u S h1 h2 => p_gapsof (k + 1) (by omega) u S h1 h2) ?_ ?_ ?_ ?_ ?_ ?_
  · intro u S h
    exact binds_twice_ok (fb := r (k + 2) 10) wfuel u S (p_bound (k + 1) u S (by omega))
  · intro u S h h2
    exact free_names_ok (fg := r (k + 2) 2) wfuel u S (p_gather (k + 1) u _ _ (by omega) h2)
  · intro u S h h2
    exact left_told_ok (fe := r (k + 2) 5) (fg := r (k + 2) 6) wfuel u S (fun S => p_every (k + 1) u S (by omega) (by omega)) fun S => p_gapsof k hk u S h h2
  · intro u S n z gs h h2 h3
    exact right_told_ok (fe := r (k + 2) 5) (fk := r (k + 2) 7) wfuel u S n z gs h3 fun S => p_every (k + 1) u S (by omega) (by omega)
  · intro S n ks gs h h2
    exact kinds_told_ok wfuel S n ks gs h h2
  · intro u S h
    exact p_loud (k + 2) u S (by omega)
theorem law_true : ∀ ns : List Int, ns.length ≤ 63 → ∃ S', run wfuel 200 35 [.rol (ns.map PV.int)] [] = .ok (.bl true) S' := by
  intro ns _
  have h : RW (r 200 35 [.rol (ns.map PV.int)] []) fun v _ => v = .bl true := by
    refine law_ok (fc := r 199 23) (ff := r 199 28) (fl := r 199 34) (fg := r 199 25) (fs := r 199 24) (ft := r 199 33) (fr := r 199 22) wfuel [] ns ?_ (p_mk 198 4 (by omega)) ((p_gaps 198).le (by omega)) ((p_filled 198).le (by omega)) ?_ ?_ ?_
    · intro S z hz
      obtain ⟨n, rfl⟩ : ∃ n : Nat, z = n := ⟨z.toNat, by omega⟩
      exact cell_at_ok wfuel S ns n
    · intro S m marks c hm hn hl
      refine fillings_ok (fc := r 198 23) (fp := r 198 27) wfuel S ns m marks c hm hn hl ?_ ?_
      · intro S z hz
        obtain ⟨n, rfl⟩ : ∃ n : Nat, z = n := ⟨z.toNat, by omega⟩
        exact cell_at_ok wfuel S ns n
      · intro S c kind hk
        exact piece_ok (fl := r 197 26) wfuel S c kind hk fun S c => leaf_ok wfuel S c kind hk
    · intro L R σ hG j0 js S p hp h8
      refine ro_ok hG (fw := r 198 4) (fk := r 198 21) (fl := r 198 18) (fs := r 198 20) (fo := r 198 16) j0 js wfuel S p hp h8 (fun S n h => word_by_ok 0 S n h) ?_ ?_ ((p_shape 197).le (by omega)) ?_
      · intro S a rw hS hf hl
        exact kind_for_ok (fq := r 197 8) wfuel S a rw hS hf hl fun u S hu => p_quiet 196 u S _ (.inl rfl) (by have := hu.1.2; omega) hu
      · intro S p prs hp h0 h8 hd
        exact look_ok (fl := r 197 17) wfuel S p prs hp h0 h8 hd fun u S hu => p_let 196 u S (by omega)
      · intro l r' ks S hdl hdr hpl hll hrl hnl hnr hsub hks hlo
        exact p_why 193 (by omega) l r' ks S hdl hdr hpl hll hrl hnl hnr hsub hks hlo
    · intro L R σ hG j0 js S p m ks h1 h2 h3 h4 h5
      refine tl_ok hG (ff := r 198 29) (fr := r 198 32) j0 js wfuel S p m ks h1 h2 h3 h4 h5 ((p_fit 197).le (by omega)) ?_
      intro S a t ts ha hf hl hs
      exact row_good_ok (fh := r 197 31) (fl := r 197 30) wfuel S a t ts ha hf hl hs (fun u S hu => law_head_ok wfuel u S hu) fun u S hu => p_lloud 196 u S (by have := hu.1.2; omega) hu
  obtain ⟨v, S', e, rfl⟩ := h
  exact ⟨S', e⟩
end K71
namespace K71
open PySem PySem.Spec PyProof.Rows L2 Dn
theorem all_mk {l : PySem.W.OpenLaw} {w : World} {K : PySem.W.Frag} {h : Heap} {mg : Str → Option Value} {fa : Addr} (X : K.In h) (G : h.Ns mainGlobals mg) (hfa : mg "law" = some (.ref fa))
    {f0 : Addr} {oc0 kV0 dc0 pm0 cd0 ct0 : Value} {od0 an0 : Option Addr} {sl0 : Array (Option Value)}
    {f1 : Addr} {oc1 kV1 dc1 pm1 cd1 ct1 : Value} {od1 an1 : Option Addr} {sl1 : Array (Option Value)}
    {f2 : Addr} {oc2 kV2 dc2 pm2 cd2 ct2 : Value} {od2 an2 : Option Addr} {sl2 : Array (Option Value)}
    {f3 : Addr} {oc3 kV3 dc3 pm3 cd3 ct3 : Value} {od3 an3 : Option Addr} {sl3 : Array (Option Value)}
    {f4 : Addr} {oc4 kV4 dc4 pm4 cd4 ct4 : Value} {od4 an4 : Option Addr} {sl4 : Array (Option Value)}
    {f5 : Addr} {oc5 kV5 dc5 pm5 cd5 ct5 : Value} {od5 an5 : Option Addr} {sl5 : Array (Option Value)}
    {f6 : Addr} {oc6 kV6 dc6 pm6 cd6 ct6 : Value} {od6 an6 : Option Addr} {sl6 : Array (Option Value)}
    {f7 : Addr} {oc7 kV7 dc7 pm7 cd7 ct7 : Value} {od7 an7 : Option Addr} {sl7 : Array (Option Value)}
    {f8 : Addr} {oc8 kV8 dc8 pm8 cd8 ct8 : Value} {od8 an8 : Option Addr} {sl8 : Array (Option Value)}
    {t8 : Addr} {tc8 : Value} {td8 : Option Addr} {ti8 : Array Value} {tn8 : Nat} {ts8 : Array (Option Value)}
    {f9 : Addr} {oc9 kV9 dc9 pm9 cd9 ct9 : Value} {od9 an9 : Option Addr} {sl9 : Array (Option Value)}
    {f10 : Addr} {oc10 kV10 dc10 pm10 cd10 ct10 : Value} {od10 an10 : Option Addr} {sl10 : Array (Option Value)}
    {f11 : Addr} {oc11 kV11 dc11 pm11 cd11 ct11 : Value} {od11 an11 : Option Addr} {sl11 : Array (Option Value)}
    {f12 : Addr} {oc12 kV12 dc12 pm12 cd12 ct12 : Value} {od12 an12 : Option Addr} {sl12 : Array (Option Value)}
    {f13 : Addr} {oc13 kV13 dc13 pm13 cd13 ct13 : Value} {od13 an13 : Option Addr} {sl13 : Array (Option Value)}
    {f14 : Addr} {oc14 kV14 dc14 pm14 cd14 ct14 : Value} {od14 an14 : Option Addr} {sl14 : Array (Option Value)}
    {f15 : Addr} {oc15 kV15 dc15 pm15 cd15 ct15 : Value} {od15 an15 : Option Addr} {sl15 : Array (Option Value)}
    {f16 : Addr} {oc16 kV16 dc16 pm16 cd16 ct16 : Value} {od16 an16 : Option Addr} {sl16 : Array (Option Value)}
    {f17 : Addr} {oc17 kV17 dc17 pm17 cd17 ct17 : Value} {od17 an17 : Option Addr} {sl17 : Array (Option Value)}
    {f18 : Addr} {oc18 kV18 dc18 pm18 cd18 ct18 : Value} {od18 an18 : Option Addr} {sl18 : Array (Option Value)}
    {f19 : Addr} {oc19 kV19 dc19 pm19 cd19 ct19 : Value} {od19 an19 : Option Addr} {sl19 : Array (Option Value)}
    {f20 : Addr} {oc20 kV20 dc20 pm20 cd20 ct20 : Value} {od20 an20 : Option Addr} {sl20 : Array (Option Value)}
    {f21 : Addr} {oc21 kV21 dc21 pm21 cd21 ct21 : Value} {od21 an21 : Option Addr} {sl21 : Array (Option Value)}
    {f22 : Addr} {oc22 kV22 dc22 pm22 cd22 ct22 : Value} {od22 an22 : Option Addr} {sl22 : Array (Option Value)}
    {f23 : Addr} {oc23 kV23 dc23 pm23 cd23 ct23 : Value} {od23 an23 : Option Addr} {sl23 : Array (Option Value)}
    {f24 : Addr} {oc24 kV24 dc24 pm24 cd24 ct24 : Value} {od24 an24 : Option Addr} {sl24 : Array (Option Value)}
    {f25 : Addr} {oc25 kV25 dc25 pm25 cd25 ct25 : Value} {od25 an25 : Option Addr} {sl25 : Array (Option Value)}
    {f26 : Addr} {oc26 kV26 dc26 pm26 cd26 ct26 : Value} {od26 an26 : Option Addr} {sl26 : Array (Option Value)}
    {f27 : Addr} {oc27 kV27 dc27 pm27 cd27 ct27 : Value} {od27 an27 : Option Addr} {sl27 : Array (Option Value)}
    {f28 : Addr} {oc28 kV28 dc28 pm28 cd28 ct28 : Value} {od28 an28 : Option Addr} {sl28 : Array (Option Value)}
    {f29 : Addr} {oc29 kV29 dc29 pm29 cd29 ct29 : Value} {od29 an29 : Option Addr} {sl29 : Array (Option Value)}
    {f30 : Addr} {oc30 kV30 dc30 pm30 cd30 ct30 : Value} {od30 an30 : Option Addr} {sl30 : Array (Option Value)}
    {f31 : Addr} {oc31 kV31 dc31 pm31 cd31 ct31 : Value} {od31 an31 : Option Addr} {sl31 : Array (Option Value)}
    {f32 : Addr} {oc32 kV32 dc32 pm32 cd32 ct32 : Value} {od32 an32 : Option Addr} {sl32 : Array (Option Value)}
    {f33 : Addr} {oc33 kV33 dc33 pm33 cd33 ct33 : Value} {od33 an33 : Option Addr} {sl33 : Array (Option Value)}
    {f34 : Addr} {oc34 kV34 dc34 pm34 cd34 ct34 : Value} {od34 an34 : Option Addr} {sl34 : Array (Option Value)}
    {f35 : Addr} {oc35 kV35 dc35 pm35 cd35 ct35 : Value} {od35 an35 : Option Addr} {sl35 : Array (Option Value)}
    {f_LEAVES : Addr} {i_LEAVES : Array Value} {n_LEAVES : Nat} {s_LEAVES : Array (Option Value)}
    {y_LETTERS : Tok}
    {f_LOUD : Addr} {i_LOUD : Array Value} {n_LOUD : Nat} {s_LOUD : Array (Option Value)}
    (a0 : PySem.W.nsIn K mainGlobals "parts" = some (some (.ref f0)))
    (l0 : K.lookup f0 = some ⟨oc0, od0, .func (PySem.W.fnOf "parts" "parts" (defArgs s_q_parts) (defBody s_q_parts) (defScope s_q_parts) .none kV0 dc0 pm0 an0 cd0 ct0), sl0⟩)
    (c0 : PySem.W.codeIn K cd0 "parts" = true)
    (k0 : PySem.W.keepIn K (.ref f0) = true)
    (a1 : PySem.W.nsIn K mainGlobals "with_parts" = some (some (.ref f1)))
    (l1 : K.lookup f1 = some ⟨oc1, od1, .func (PySem.W.fnOf "with_parts" "with_parts" (defArgs s_q_with_parts) (defBody s_q_with_parts) (defScope s_q_with_parts) .none kV1 dc1 pm1 an1 cd1 ct1), sl1⟩)
    (c1 : PySem.W.codeIn K cd1 "with_parts" = true)
    (k1 : PySem.W.keepIn K (.ref f1) = true)
    (a2 : PySem.W.nsIn K mainGlobals "gather" = some (some (.ref f2)))
    (l2 : K.lookup f2 = some ⟨oc2, od2, .func (PySem.W.fnOf "gather" "gather" (defArgs s_q_gather) (defBody s_q_gather) (defScope s_q_gather) .none kV2 dc2 pm2 an2 cd2 ct2), sl2⟩)
    (c2 : PySem.W.codeIn K cd2 "gather" = true)
    (k2 : PySem.W.keepIn K (.ref f2) = true)
    (a3 : PySem.W.nsIn K mainGlobals "free_names" = some (some (.ref f3)))
    (l3 : K.lookup f3 = some ⟨oc3, od3, .func (PySem.W.fnOf "free_names" "free_names" (defArgs s_q_free_names) (defBody s_q_free_names) (defScope s_q_free_names) .none kV3 dc3 pm3 an3 cd3 ct3), sl3⟩)
    (c3 : PySem.W.codeIn K cd3 "free_names" = true)
    (k3 : PySem.W.keepIn K (.ref f3) = true)
    (a4 : PySem.W.nsIn K mainGlobals "word_by" = some (some (.ref f4)))
    (l4 : K.lookup f4 = some ⟨oc4, od4, .func (PySem.W.fnOf "word_by" "word_by" (defArgs s_q_word_by) (defBody s_q_word_by) (defScope s_q_word_by) .none kV4 dc4 pm4 an4 cd4 ct4), sl4⟩)
    (c4 : PySem.W.codeIn K cd4 "word_by" = true)
    (k4 : PySem.W.keepIn K (.ref f4) = true)
    (a5 : PySem.W.nsIn K mainGlobals "every_gap" = some (some (.ref f5)))
    (l5 : K.lookup f5 = some ⟨oc5, od5, .func (PySem.W.fnOf "every_gap" "every_gap" (defArgs s_q_every_gap) (defBody s_q_every_gap) (defScope s_q_every_gap) .none kV5 dc5 pm5 an5 cd5 ct5), sl5⟩)
    (c5 : PySem.W.codeIn K cd5 "every_gap" = true)
    (k5 : PySem.W.keepIn K (.ref f5) = true)
    (a6 : PySem.W.nsIn K mainGlobals "gaps_of" = some (some (.ref f6)))
    (l6 : K.lookup f6 = some ⟨oc6, od6, .func (PySem.W.fnOf "gaps_of" "gaps_of" (defArgs s_q_gaps_of) (defBody s_q_gaps_of) (defScope s_q_gaps_of) .none kV6 dc6 pm6 an6 cd6 ct6), sl6⟩)
    (c6 : PySem.W.codeIn K cd6 "gaps_of" = true)
    (k6 : PySem.W.keepIn K (.ref f6) = true)
    (a7 : PySem.W.nsIn K mainGlobals "kind_of" = some (some (.ref f7)))
    (l7 : K.lookup f7 = some ⟨oc7, od7, .func (PySem.W.fnOf "kind_of" "kind_of" (defArgs s_q_kind_of) (defBody s_q_kind_of) (defScope s_q_kind_of) .none kV7 dc7 pm7 an7 cd7 ct7), sl7⟩)
    (c7 : PySem.W.codeIn K cd7 "kind_of" = true)
    (k7 : PySem.W.keepIn K (.ref f7) = true)
    (a8 : PySem.W.nsIn K mainGlobals "is_quiet" = some (some (.ref f8)))
    (l8 : K.lookup f8 = some ⟨oc8, od8, .func (PySem.W.fnOf "is_quiet" "is_quiet" (defArgs s_q_is_quiet) (defBody s_q_is_quiet) (defScope s_q_is_quiet) (.ref t8) kV8 dc8 pm8 an8 cd8 ct8), sl8⟩)
    (c8 : PySem.W.codeIn K cd8 "is_quiet" = true)
    (k8 : PySem.W.keepIn K (.ref f8) = true)
    (lt8 : K.lookup t8 = some ⟨tc8, td8, .seq ti8 tn8, ts8⟩)
    (vt8 : Vals [.non] ti8.toList)
    (a9 : PySem.W.nsIn K mainGlobals "is_loud" = some (some (.ref f9)))
    (l9 : K.lookup f9 = some ⟨oc9, od9, .func (PySem.W.fnOf "is_loud" "is_loud" (defArgs s_q_is_loud) (defBody s_q_is_loud) (defScope s_q_is_loud) .none kV9 dc9 pm9 an9 cd9 ct9), sl9⟩)
    (c9 : PySem.W.codeIn K cd9 "is_loud" = true)
    (k9 : PySem.W.keepIn K (.ref f9) = true)
    (a10 : PySem.W.nsIn K mainGlobals "bound_names" = some (some (.ref f10)))
    (l10 : K.lookup f10 = some ⟨oc10, od10, .func (PySem.W.fnOf "bound_names" "bound_names" (defArgs s_q_bound_names) (defBody s_q_bound_names) (defScope s_q_bound_names) .none kV10 dc10 pm10 an10 cd10 ct10), sl10⟩)
    (c10 : PySem.W.codeIn K cd10 "bound_names" = true)
    (k10 : PySem.W.keepIn K (.ref f10) = true)
    (a11 : PySem.W.nsIn K mainGlobals "binds_twice" = some (some (.ref f11)))
    (l11 : K.lookup f11 = some ⟨oc11, od11, .func (PySem.W.fnOf "binds_twice" "binds_twice" (defArgs s_q_binds_twice) (defBody s_q_binds_twice) (defScope s_q_binds_twice) .none kV11 dc11 pm11 an11 cd11 ct11), sl11⟩)
    (c11 : PySem.W.codeIn K cd11 "binds_twice" = true)
    (k11 : PySem.W.keepIn K (.ref f11) = true)
    (a12 : PySem.W.nsIn K mainGlobals "left_told" = some (some (.ref f12)))
    (l12 : K.lookup f12 = some ⟨oc12, od12, .func (PySem.W.fnOf "left_told" "left_told" (defArgs s_q_left_told) (defBody s_q_left_told) (defScope s_q_left_told) .none kV12 dc12 pm12 an12 cd12 ct12), sl12⟩)
    (c12 : PySem.W.codeIn K cd12 "left_told" = true)
    (k12 : PySem.W.keepIn K (.ref f12) = true)
    (a13 : PySem.W.nsIn K mainGlobals "right_told" = some (some (.ref f13)))
    (l13 : K.lookup f13 = some ⟨oc13, od13, .func (PySem.W.fnOf "right_told" "right_told" (defArgs s_q_right_told) (defBody s_q_right_told) (defScope s_q_right_told) .none kV13 dc13 pm13 an13 cd13 ct13), sl13⟩)
    (c13 : PySem.W.codeIn K cd13 "right_told" = true)
    (k13 : PySem.W.keepIn K (.ref f13) = true)
    (a14 : PySem.W.nsIn K mainGlobals "kinds_told" = some (some (.ref f14)))
    (l14 : K.lookup f14 = some ⟨oc14, od14, .func (PySem.W.fnOf "kinds_told" "kinds_told" (defArgs s_q_kinds_told) (defBody s_q_kinds_told) (defScope s_q_kinds_told) .none kV14 dc14 pm14 an14 cd14 ct14), sl14⟩)
    (c14 : PySem.W.codeIn K cd14 "kinds_told" = true)
    (k14 : PySem.W.keepIn K (.ref f14) = true)
    (a15 : PySem.W.nsIn K mainGlobals "why_none" = some (some (.ref f15)))
    (l15 : K.lookup f15 = some ⟨oc15, od15, .func (PySem.W.fnOf "why_none" "why_none" (defArgs s_q_why_none) (defBody s_q_why_none) (defScope s_q_why_none) .none kV15 dc15 pm15 an15 cd15 ct15), sl15⟩)
    (c15 : PySem.W.codeIn K cd15 "why_none" = true)
    (k15 : PySem.W.keepIn K (.ref f15) = true)
    (a16 : PySem.W.nsIn K mainGlobals "form" = some (some (.ref f16)))
    (l16 : K.lookup f16 = some ⟨oc16, od16, .func (PySem.W.fnOf "form" "form" (defArgs s_q_form) (defBody s_q_form) (defScope s_q_form) .none kV16 dc16 pm16 an16 cd16 ct16), sl16⟩)
    (c16 : PySem.W.codeIn K cd16 "form" = true)
    (k16 : PySem.W.keepIn K (.ref f16) = true)
    (a17 : PySem.W.nsIn K mainGlobals "has_let" = some (some (.ref f17)))
    (l17 : K.lookup f17 = some ⟨oc17, od17, .func (PySem.W.fnOf "has_let" "has_let" (defArgs s_q_has_let) (defBody s_q_has_let) (defScope s_q_has_let) .none kV17 dc17 pm17 an17 cd17 ct17), sl17⟩)
    (c17 : PySem.W.codeIn K cd17 "has_let" = true)
    (k17 : PySem.W.keepIn K (.ref f17) = true)
    (a18 : PySem.W.nsIn K mainGlobals "look_at_pairs" = some (some (.ref f18)))
    (l18 : K.lookup f18 = some ⟨oc18, od18, .func (PySem.W.fnOf "look_at_pairs" "look_at_pairs" (defArgs s_q_look_at_pairs) (defBody s_q_look_at_pairs) (defScope s_q_look_at_pairs) .none kV18 dc18 pm18 an18 cd18 ct18), sl18⟩)
    (c18 : PySem.W.codeIn K cd18 "look_at_pairs" = true)
    (k18 : PySem.W.keepIn K (.ref f18) = true)
    (a19 : PySem.W.nsIn K mainGlobals "same_heads" = some (some (.ref f19)))
    (l19 : K.lookup f19 = some ⟨oc19, od19, .func (PySem.W.fnOf "same_heads" "same_heads" (defArgs s_q_same_heads) (defBody s_q_same_heads) (defScope s_q_same_heads) .none kV19 dc19 pm19 an19 cd19 ct19), sl19⟩)
    (c19 : PySem.W.codeIn K cd19 "same_heads" = true)
    (k19 : PySem.W.keepIn K (.ref f19) = true)
    (a20 : PySem.W.nsIn K mainGlobals "shared_shape" = some (some (.ref f20)))
    (l20 : K.lookup f20 = some ⟨oc20, od20, .func (PySem.W.fnOf "shared_shape" "shared_shape" (defArgs s_q_shared_shape) (defBody s_q_shared_shape) (defScope s_q_shared_shape) .none kV20 dc20 pm20 an20 cd20 ct20), sl20⟩)
    (c20 : PySem.W.codeIn K cd20 "shared_shape" = true)
    (k20 : PySem.W.keepIn K (.ref f20) = true)
    (a21 : PySem.W.nsIn K mainGlobals "kind_for" = some (some (.ref f21)))
    (l21 : K.lookup f21 = some ⟨oc21, od21, .func (PySem.W.fnOf "kind_for" "kind_for" (defArgs s_q_kind_for) (defBody s_q_kind_for) (defScope s_q_kind_for) .none kV21 dc21 pm21 an21 cd21 ct21), sl21⟩)
    (c21 : PySem.W.codeIn K cd21 "kind_for" = true)
    (k21 : PySem.W.keepIn K (.ref f21) = true)
    (a22 : PySem.W.nsIn K mainGlobals "read_off" = some (some (.ref f22)))
    (l22 : K.lookup f22 = some ⟨oc22, od22, .func (PySem.W.fnOf "read_off" "read_off" (defArgs s_q_read_off) (defBody s_q_read_off) (defScope s_q_read_off) .none kV22 dc22 pm22 an22 cd22 ct22), sl22⟩)
    (c22 : PySem.W.codeIn K cd22 "read_off" = true)
    (k22 : PySem.W.keepIn K (.ref f22) = true)
    (a23 : PySem.W.nsIn K mainGlobals "_law_cell_at" = some (some (.ref f23)))
    (l23 : K.lookup f23 = some ⟨oc23, od23, .func (PySem.W.fnOf "_law_cell_at" "_law_cell_at" (defArgs s_q_law_cell_at) (defBody s_q_law_cell_at) (defScope s_q_law_cell_at) .none kV23 dc23 pm23 an23 cd23 ct23), sl23⟩)
    (c23 : PySem.W.codeIn K cd23 "_law_cell_at" = true)
    (k23 : PySem.W.keepIn K (.ref f23) = true)
    (a24 : PySem.W.nsIn K mainGlobals "_law_shape" = some (some (.ref f24)))
    (l24 : K.lookup f24 = some ⟨oc24, od24, .func (PySem.W.fnOf "_law_shape" "_law_shape" (defArgs s_q_law_shape) (defBody s_q_law_shape) (defScope s_q_law_shape) .none kV24 dc24 pm24 an24 cd24 ct24), sl24⟩)
    (c24 : PySem.W.codeIn K cd24 "_law_shape" = true)
    (k24 : PySem.W.keepIn K (.ref f24) = true)
    (a25 : PySem.W.nsIn K mainGlobals "_law_gaps" = some (some (.ref f25)))
    (l25 : K.lookup f25 = some ⟨oc25, od25, .func (PySem.W.fnOf "_law_gaps" "_law_gaps" (defArgs s_q_law_gaps) (defBody s_q_law_gaps) (defScope s_q_law_gaps) .none kV25 dc25 pm25 an25 cd25 ct25), sl25⟩)
    (c25 : PySem.W.codeIn K cd25 "_law_gaps" = true)
    (k25 : PySem.W.keepIn K (.ref f25) = true)
    (a26 : PySem.W.nsIn K mainGlobals "_law_leaf" = some (some (.ref f26)))
    (l26 : K.lookup f26 = some ⟨oc26, od26, .func (PySem.W.fnOf "_law_leaf" "_law_leaf" (defArgs s_q_law_leaf) (defBody s_q_law_leaf) (defScope s_q_law_leaf) .none kV26 dc26 pm26 an26 cd26 ct26), sl26⟩)
    (c26 : PySem.W.codeIn K cd26 "_law_leaf" = true)
    (k26 : PySem.W.keepIn K (.ref f26) = true)
    (a27 : PySem.W.nsIn K mainGlobals "_law_piece" = some (some (.ref f27)))
    (l27 : K.lookup f27 = some ⟨oc27, od27, .func (PySem.W.fnOf "_law_piece" "_law_piece" (defArgs s_q_law_piece) (defBody s_q_law_piece) (defScope s_q_law_piece) .none kV27 dc27 pm27 an27 cd27 ct27), sl27⟩)
    (c27 : PySem.W.codeIn K cd27 "_law_piece" = true)
    (k27 : PySem.W.keepIn K (.ref f27) = true)
    (a28 : PySem.W.nsIn K mainGlobals "_law_filled" = some (some (.ref f28)))
    (l28 : K.lookup f28 = some ⟨oc28, od28, .func (PySem.W.fnOf "_law_filled" "_law_filled" (defArgs s_q_law_filled) (defBody s_q_law_filled) (defScope s_q_law_filled) .none kV28 dc28 pm28 an28 cd28 ct28), sl28⟩)
    (c28 : PySem.W.codeIn K cd28 "_law_filled" = true)
    (k28 : PySem.W.keepIn K (.ref f28) = true)
    (a29 : PySem.W.nsIn K mainGlobals "_law_fit" = some (some (.ref f29)))
    (l29 : K.lookup f29 = some ⟨oc29, od29, .func (PySem.W.fnOf "_law_fit" "_law_fit" (defArgs s_q_law_fit) (defBody s_q_law_fit) (defScope s_q_law_fit) .none kV29 dc29 pm29 an29 cd29 ct29), sl29⟩)
    (c29 : PySem.W.codeIn K cd29 "_law_fit" = true)
    (k29 : PySem.W.keepIn K (.ref f29) = true)
    (a30 : PySem.W.nsIn K mainGlobals "_law_loud" = some (some (.ref f30)))
    (l30 : K.lookup f30 = some ⟨oc30, od30, .func (PySem.W.fnOf "_law_loud" "_law_loud" (defArgs s_q_law_loud) (defBody s_q_law_loud) (defScope s_q_law_loud) .none kV30 dc30 pm30 an30 cd30 ct30), sl30⟩)
    (c30 : PySem.W.codeIn K cd30 "_law_loud" = true)
    (k30 : PySem.W.keepIn K (.ref f30) = true)
    (a31 : PySem.W.nsIn K mainGlobals "_law_head" = some (some (.ref f31)))
    (l31 : K.lookup f31 = some ⟨oc31, od31, .func (PySem.W.fnOf "_law_head" "_law_head" (defArgs s_q_law_head) (defBody s_q_law_head) (defScope s_q_law_head) .none kV31 dc31 pm31 an31 cd31 ct31), sl31⟩)
    (c31 : PySem.W.codeIn K cd31 "_law_head" = true)
    (k31 : PySem.W.keepIn K (.ref f31) = true)
    (a32 : PySem.W.nsIn K mainGlobals "_law_row_good" = some (some (.ref f32)))
    (l32 : K.lookup f32 = some ⟨oc32, od32, .func (PySem.W.fnOf "_law_row_good" "_law_row_good" (defArgs s_q_law_row_good) (defBody s_q_law_row_good) (defScope s_q_law_row_good) .none kV32 dc32 pm32 an32 cd32 ct32), sl32⟩)
    (c32 : PySem.W.codeIn K cd32 "_law_row_good" = true)
    (k32 : PySem.W.keepIn K (.ref f32) = true)
    (a33 : PySem.W.nsIn K mainGlobals "_law_told" = some (some (.ref f33)))
    (l33 : K.lookup f33 = some ⟨oc33, od33, .func (PySem.W.fnOf "_law_told" "_law_told" (defArgs s_q_law_told) (defBody s_q_law_told) (defScope s_q_law_told) .none kV33 dc33 pm33 an33 cd33 ct33), sl33⟩)
    (c33 : PySem.W.codeIn K cd33 "_law_told" = true)
    (k33 : PySem.W.keepIn K (.ref f33) = true)
    (a34 : PySem.W.nsIn K mainGlobals "_law_fillings" = some (some (.ref f34)))
    (l34 : K.lookup f34 = some ⟨oc34, od34, .func (PySem.W.fnOf "_law_fillings" "_law_fillings" (defArgs s_q_law_fillings) (defBody s_q_law_fillings) (defScope s_q_law_fillings) .none kV34 dc34 pm34 an34 cd34 ct34), sl34⟩)
    (c34 : PySem.W.codeIn K cd34 "_law_fillings" = true)
    (k34 : PySem.W.keepIn K (.ref f34) = true)
    (a35 : PySem.W.nsIn K mainGlobals "law" = some (some (.ref f35)))
    (l35 : K.lookup f35 = some ⟨oc35, od35, .func (PySem.W.fnOf "law" "law" (defArgs s_q_law) (defBody s_q_law) (defScope s_q_law) .none kV35 dc35 pm35 an35 cd35 ct35), sl35⟩)
    (c35 : PySem.W.codeIn K cd35 "law" = true)
    (k35 : PySem.W.keepIn K (.ref f35) = true)
    (z_dict : PySem.W.nsIn K mainGlobals "dict" = some none)
    (z_enumerate : PySem.W.nsIn K mainGlobals "enumerate" = some none)
    (z_isinstance : PySem.W.nsIn K mainGlobals "isinstance" = some none)
    (z_len : PySem.W.nsIn K mainGlobals "len" = some none)
    (z_list : PySem.W.nsIn K mainGlobals "list" = some none)
    (z_range : PySem.W.nsIn K mainGlobals "range" = some none)
    (z_set : PySem.W.nsIn K mainGlobals "set" = some none)
    (z_sorted : PySem.W.nsIn K mainGlobals "sorted" = some none)
    (z_tuple : PySem.W.nsIn K mainGlobals "tuple" = some none)
    (z_zip : PySem.W.nsIn K mainGlobals "zip" = some none)
    (a_LEAVES : PySem.W.nsIn K mainGlobals "LEAVES" = some (some (.ref f_LEAVES)))
    (l_LEAVES : K.lookup f_LEAVES = some ⟨.type "tuple", none, .seq i_LEAVES n_LEAVES, s_LEAVES⟩)
    (v_LEAVES : Vals [.str "num", .str "name", .str "ask", .str "stop", .str "gap"] i_LEAVES.toList)
    (a_LETTERS : PySem.W.nsIn K mainGlobals "LETTERS" = some (some (.str "abcdefghijklmnopqrstuvwxyz" y_LETTERS)))
    (a_LOUD : PySem.W.nsIn K mainGlobals "LOUD" = some (some (.ref f_LOUD)))
    (l_LOUD : K.lookup f_LOUD = some ⟨.type "tuple", none, .seq i_LOUD n_LOUD, s_LOUD⟩)
    (v_LOUD : Vals [.str "say", .str "ask", .str "stop"] i_LOUD.toList)
    : ∃ fd : FuncData, (∀ (s : Shared) (v : Value), BindsTo s fd ⟨[v], []⟩ [("_law_script", v)]) ∧ ∀ base : Heap, K.In base → base.Ns mainGlobals mg → FnOk l.prog w K mg base (L2.CX l.prog w) 200 fa fd ["_law_script"] (spLaw K) := by
  have e := hfa.symm.trans (PySem.W.mg_of X G a35)
  cases e
  have F0 := fun_mk (st := s_q_parts) l0 c0 k0
  have b0 := F0.binds (ps := ["tree"]) fun _ _ _ _ _ _ us hl => match us, hl with | [_], _ => rfl
  have F1 := fun_mk (st := s_q_with_parts) l1 c1 k1
  have b1 := F1.binds (ps := ["tree", "some"]) fun _ _ _ _ _ _ us hl => match us, hl with | [_, _], _ => rfl
  have F2 := fun_mk (st := s_q_gather) l2 c2 k2
  have b2 := F2.binds (ps := ["tree", "bound", "found"]) fun _ _ _ _ _ _ us hl => match us, hl with | [_, _, _], _ => rfl
  have F3 := fun_mk (st := s_q_free_names) l3 c3 k3
  have b3 := F3.binds (ps := ["tree"]) fun _ _ _ _ _ _ us hl => match us, hl with | [_], _ => rfl
  have F4 := fun_mk (st := s_q_word_by) l4 c4 k4
  have b4 := F4.binds (ps := ["number"]) fun _ _ _ _ _ _ us hl => match us, hl with | [_], _ => rfl
  have F5 := fun_mk (st := s_q_every_gap) l5 c5 k5
  have b5 := F5.binds (ps := ["shape"]) fun _ _ _ _ _ _ us hl => match us, hl with | [_], _ => rfl
  have F6 := fun_mk (st := s_q_gaps_of) l6 c6 k6
  have b6 := F6.binds (ps := ["shape"]) fun _ _ _ _ _ _ us hl => match us, hl with | [_], _ => rfl
  have F7 := fun_mk (st := s_q_kind_of) l7 c7 k7
  have b7 := F7.binds (ps := ["gap", "kinds"]) fun _ _ _ _ _ _ us hl => match us, hl with | [_, _], _ => rfl
  have F8 : FunD K "is_quiet" "is_quiet" (defArgs s_q_is_quiet) (defBody s_q_is_quiet) (defScope s_q_is_quiet) [.non] [] f8 _ := ⟨⟨_, _, _, _, _, _, _, _, _, _, rfl, l8, c8, .inr ⟨by simp, t8, _, ti8.toList, tn8, rfl, lt8, by simp, vt8⟩, .inl rfl⟩, k8⟩
  obtain ⟨bs8, bv8, b8⟩ := F8.binds1 (ps := ["tree", "kinds"]) 2 1 (by simp) rfl (fun T kV doc pm an cdv ct us its hu hi => by match us, its, hu, hi with | [_, _], [_], _, _ => exact ⟨_, rfl, rfl⟩)
  cases bv8
  obtain ⟨bs8_1, bv8_1, b8_1⟩ := F8.binds1 (ps := ["tree", "kinds"]) 1 0 (by simp) rfl (fun T kV doc pm an cdv ct us its hu hi => by match us, its, hu, hi with | [_], [_], _, _ => exact ⟨_, rfl, rfl⟩)
  have F9 := fun_mk (st := s_q_is_loud) l9 c9 k9
  have b9 := F9.binds (ps := ["shape"]) fun _ _ _ _ _ _ us hl => match us, hl with | [_], _ => rfl
  have F10 := fun_mk (st := s_q_bound_names) l10 c10 k10
  have b10 := F10.binds (ps := ["shape"]) fun _ _ _ _ _ _ us hl => match us, hl with | [_], _ => rfl
  have F11 := fun_mk (st := s_q_binds_twice) l11 c11 k11
  have b11 := F11.binds (ps := ["shape"]) fun _ _ _ _ _ _ us hl => match us, hl with | [_], _ => rfl
  have F12 := fun_mk (st := s_q_left_told) l12 c12 k12
  have b12 := F12.binds (ps := ["left"]) fun _ _ _ _ _ _ us hl => match us, hl with | [_], _ => rfl
  have F13 := fun_mk (st := s_q_right_told) l13 c13 k13
  have b13 := F13.binds (ps := ["right", "many", "kinds"]) fun _ _ _ _ _ _ us hl => match us, hl with | [_, _, _], _ => rfl
  have F14 := fun_mk (st := s_q_kinds_told) l14 c14 k14
  have b14 := F14.binds (ps := ["kinds", "many"]) fun _ _ _ _ _ _ us hl => match us, hl with | [_, _], _ => rfl
  have F15 := fun_mk (st := s_q_why_none) l15 c15 k15
  have b15 := F15.binds (ps := ["left", "right", "kinds"]) fun _ _ _ _ _ _ us hl => match us, hl with | [_, _, _], _ => rfl
  have F16 := fun_mk (st := s_q_form) l16 c16 k16
  have b16 := F16.binds (ps := ["rule"]) fun _ _ _ _ _ _ us hl => match us, hl with | [_], _ => rfl
  have F17 := fun_mk (st := s_q_has_let) l17 c17 k17
  have b17 := F17.binds (ps := ["tree"]) fun _ _ _ _ _ _ us hl => match us, hl with | [_], _ => rfl
  have F18 := fun_mk (st := s_q_look_at_pairs) l18 c18 k18
  have b18 := F18.binds (ps := ["pairs"]) fun _ _ _ _ _ _ us hl => match us, hl with | [_], _ => rfl
  have F19 := fun_mk (st := s_q_same_heads) l19 c19 k19
  have b19 := F19.binds (ps := ["row"]) fun _ _ _ _ _ _ us hl => match us, hl with | [_], _ => rfl
  have F20 := fun_mk (st := s_q_shared_shape) l20 c20 k20
  have b20 := F20.binds (ps := ["row", "rows"]) fun _ _ _ _ _ _ us hl => match us, hl with | [_, _], _ => rfl
  have F21 := fun_mk (st := s_q_kind_for) l21 c21 k21
  have b21 := F21.binds (ps := ["row"]) fun _ _ _ _ _ _ us hl => match us, hl with | [_], _ => rfl
  have F22 := fun_mk (st := s_q_read_off) l22 c22 k22
  have b22 := F22.binds (ps := ["pairs"]) fun _ _ _ _ _ _ us hl => match us, hl with | [_], _ => rfl
  have F23 := fun_mk (st := s_q_law_cell_at) l23 c23 k23
  have b23 := F23.binds (ps := ["_law_script", "_law_k"]) fun _ _ _ _ _ _ us hl => match us, hl with | [_, _], _ => rfl
  have F24 := fun_mk (st := s_q_law_shape) l24 c24 k24
  have b24 := F24.binds (ps := ["_law_cells", "_law_deep", "_law_marks"]) fun _ _ _ _ _ _ us hl => match us, hl with | [_, _, _], _ => rfl
  have F25 := fun_mk (st := s_q_law_gaps) l25 c25 k25
  have b25 := F25.binds (ps := ["_law_shape_here"]) fun _ _ _ _ _ _ us hl => match us, hl with | [_], _ => rfl
  have F26 := fun_mk (st := s_q_law_leaf) l26 c26 k26
  have b26 := F26.binds (ps := ["_law_cell", "_law_kind"]) fun _ _ _ _ _ _ us hl => match us, hl with | [_, _], _ => rfl
  have F27 := fun_mk (st := s_q_law_piece) l27 c27 k27
  have b27 := F27.binds (ps := ["_law_cell", "_law_kind"]) fun _ _ _ _ _ _ us hl => match us, hl with | [_, _], _ => rfl
  have F28 := fun_mk (st := s_q_law_filled) l28 c28 k28
  have b28 := F28.binds (ps := ["_law_shape_here", "_law_filling"]) fun _ _ _ _ _ _ us hl => match us, hl with | [_, _], _ => rfl
  have F29 := fun_mk (st := s_q_law_fit) l29 c29 k29
  have b29 := F29.binds (ps := ["_law_shape_here", "_law_tree", "_law_filling"]) fun _ _ _ _ _ _ us hl => match us, hl with | [_, _, _], _ => rfl
  have F30 := fun_mk (st := s_q_law_loud) l30 c30 k30
  have b30 := F30.binds (ps := ["_law_tree"]) fun _ _ _ _ _ _ us hl => match us, hl with | [_], _ => rfl
  have F31 := fun_mk (st := s_q_law_head) l31 c31 k31
  have b31 := F31.binds (ps := ["_law_tree"]) fun _ _ _ _ _ _ us hl => match us, hl with | [_], _ => rfl
  have F32 := fun_mk (st := s_q_law_row_good) l32 c32 k32
  have b32 := F32.binds (ps := ["_law_row", "_law_kind"]) fun _ _ _ _ _ _ us hl => match us, hl with | [_, _], _ => rfl
  have F33 := fun_mk (st := s_q_law_told) l33 c33 k33
  have b33 := F33.binds (ps := ["_law_rule", "_law_pairs"]) fun _ _ _ _ _ _ us hl => match us, hl with | [_, _], _ => rfl
  have F34 := fun_mk (st := s_q_law_fillings) l34 c34 k34
  have b34 := F34.binds (ps := ["_law_script", "_law_marks", "_law_cell"]) fun _ _ _ _ _ _ us hl => match us, hl with | [_, _, _], _ => rfl
  have F35 := fun_mk (st := s_q_law) l35 c35 k35
  have b35 := F35.binds (ps := ["_law_script"]) fun _ _ _ _ _ _ us hl => match us, hl with | [_], _ => rfl
  have T : Facts K mg := {
    n_dict := PySem.W.mg_none_of X G z_dict,
    n_enumerate := PySem.W.mg_none_of X G z_enumerate,
    n_isinstance := PySem.W.mg_none_of X G z_isinstance,
    n_len := PySem.W.mg_none_of X G z_len,
    n_list := PySem.W.mg_none_of X G z_list,
    n_range := PySem.W.mg_none_of X G z_range,
    n_set := PySem.W.mg_none_of X G z_set,
    n_sorted := PySem.W.mg_none_of X G z_sorted,
    n_tuple := PySem.W.mg_none_of X G z_tuple,
    n_zip := PySem.W.mg_none_of X G z_zip,
    g_LEAVES := ⟨_, .ref f_LEAVES, PySem.W.mg_of X G a_LEAVES, rfl, fun _ _ => ⟨f_LEAVES, _, rfl, .inr ⟨_, i_LEAVES, n_LEAVES, l_LEAVES, rfl, rfl, rfl, by rw [← Array.length_toList, ← v_LEAVES.length]; decide, v_LEAVES⟩, ⟨_, _, rfl, rfl, ⟨_, _, rfl, rfl, ⟨_, _, rfl, rfl, ⟨_, _, rfl, rfl, ⟨_, _, rfl, rfl, rfl⟩⟩⟩⟩⟩⟩⟩,
    g_LETTERS := ⟨_, .str "abcdefghijklmnopqrstuvwxyz", PySem.W.mg_of X G a_LETTERS, ⟨_, rfl⟩, fun _ _ => rfl⟩,
    g_LOUD := ⟨_, .ref f_LOUD, PySem.W.mg_of X G a_LOUD, rfl, fun _ _ => ⟨f_LOUD, _, rfl, .inr ⟨_, i_LOUD, n_LOUD, l_LOUD, rfl, rfl, rfl, by rw [← Array.length_toList, ← v_LOUD.length]; decide, v_LOUD⟩, ⟨_, _, rfl, rfl, ⟨_, _, rfl, rfl, ⟨_, _, rfl, rfl, rfl⟩⟩⟩⟩⟩ }
  refine ⟨PySem.W.fnOf "law" "law" (defArgs s_q_law) (defBody s_q_law) (defScope s_q_law) .none kV35 dc35 pm35 an35 cd35 ct35, fun s v => .of_eq rfl, fun base _ _ => ?_⟩
  have all : ∀ k, Tabl l.prog w K mg base (fun _ => 0) wfuel k := by
    intro k
    induction k with
    | zero => exact {
      c0 := fnC fn_none (PySem.W.mg_of X G a0) k0 b0,
      c1 := fnC fn_none (PySem.W.mg_of X G a1) k1 b1,
      c2 := fnC fn_none (PySem.W.mg_of X G a2) k2 b2,
      c3 := fnC fn_none (PySem.W.mg_of X G a3) k3 b3,
      c4 := fnC fn_none (PySem.W.mg_of X G a4) k4 b4,
      c5 := fnC fn_none (PySem.W.mg_of X G a5) k5 b5,
      c6 := fnC fn_none (PySem.W.mg_of X G a6) k6 b6,
      c7 := fnC fn_none (PySem.W.mg_of X G a7) k7 b7,
      c8 := fnC fn_none (PySem.W.mg_of X G a8) k8 b8,
      c8_1 := ⟨bs8_1, bv8_1, fnC fn_none (PySem.W.mg_of X G a8) k8 b8_1⟩,
      c9 := fnC fn_none (PySem.W.mg_of X G a9) k9 b9,
      c10 := fnC fn_none (PySem.W.mg_of X G a10) k10 b10,
      c11 := fnC fn_none (PySem.W.mg_of X G a11) k11 b11,
      c12 := fnC fn_none (PySem.W.mg_of X G a12) k12 b12,
      c13 := fnC fn_none (PySem.W.mg_of X G a13) k13 b13,
      c14 := fnC fn_none (PySem.W.mg_of X G a14) k14 b14,
      c15 := fnC fn_none (PySem.W.mg_of X G a15) k15 b15,
      c16 := fnC fn_none (PySem.W.mg_of X G a16) k16 b16,
      c17 := fnC fn_none (PySem.W.mg_of X G a17) k17 b17,
      c18 := fnC fn_none (PySem.W.mg_of X G a18) k18 b18,
      c19 := fnC fn_none (PySem.W.mg_of X G a19) k19 b19,
      c20 := fnC fn_none (PySem.W.mg_of X G a20) k20 b20,
      c21 := fnC fn_none (PySem.W.mg_of X G a21) k21 b21,
      c22 := fnC fn_none (PySem.W.mg_of X G a22) k22 b22,
      c23 := fnC fn_none (PySem.W.mg_of X G a23) k23 b23,
      c24 := fnC fn_none (PySem.W.mg_of X G a24) k24 b24,
      c25 := fnC fn_none (PySem.W.mg_of X G a25) k25 b25,
      c26 := fnC fn_none (PySem.W.mg_of X G a26) k26 b26,
      c27 := fnC fn_none (PySem.W.mg_of X G a27) k27 b27,
      c28 := fnC fn_none (PySem.W.mg_of X G a28) k28 b28,
      c29 := fnC fn_none (PySem.W.mg_of X G a29) k29 b29,
      c30 := fnC fn_none (PySem.W.mg_of X G a30) k30 b30,
      c31 := fnC fn_none (PySem.W.mg_of X G a31) k31 b31,
      c32 := fnC fn_none (PySem.W.mg_of X G a32) k32 b32,
      c33 := fnC fn_none (PySem.W.mg_of X G a33) k33 b33,
      c34 := fnC fn_none (PySem.W.mg_of X G a34) k34 b34,
      c35 := fnC fn_none (PySem.W.mg_of X G a35) k35 b35 }
    | succ k ih => exact {
      c0 := fnC (ok_q_parts F0 T ih) (PySem.W.mg_of X G a0) k0 b0,
      c1 := fnC (ok_q_with_parts F1 T ih) (PySem.W.mg_of X G a1) k1 b1,
      c2 := fnC (ok_q_gather F2 T ih) (PySem.W.mg_of X G a2) k2 b2,
      c3 := fnC (ok_q_free_names F3 T ih) (PySem.W.mg_of X G a3) k3 b3,
      c4 := fnC (ok_q_word_by F4 T ih) (PySem.W.mg_of X G a4) k4 b4,
      c5 := fnC (ok_q_every_gap F5 T ih) (PySem.W.mg_of X G a5) k5 b5,
      c6 := fnC (ok_q_gaps_of F6 T ih) (PySem.W.mg_of X G a6) k6 b6,
      c7 := fnC (ok_q_kind_of F7 T ih) (PySem.W.mg_of X G a7) k7 b7,
      c8 := fnC (ok_q_is_quiet F8 T ih) (PySem.W.mg_of X G a8) k8 b8,
      c8_1 := ⟨bs8_1, bv8_1, fnC (ok_q_is_quiet F8 T ih) (PySem.W.mg_of X G a8) k8 b8_1⟩,
      c9 := fnC (ok_q_is_loud F9 T ih) (PySem.W.mg_of X G a9) k9 b9,
      c10 := fnC (ok_q_bound_names F10 T ih) (PySem.W.mg_of X G a10) k10 b10,
      c11 := fnC (ok_q_binds_twice F11 T ih) (PySem.W.mg_of X G a11) k11 b11,
      c12 := fnC (ok_q_left_told F12 T ih) (PySem.W.mg_of X G a12) k12 b12,
      c13 := fnC (ok_q_right_told F13 T ih) (PySem.W.mg_of X G a13) k13 b13,
      c14 := fnC (ok_q_kinds_told F14 T ih) (PySem.W.mg_of X G a14) k14 b14,
      c15 := fnC (ok_q_why_none F15 T ih) (PySem.W.mg_of X G a15) k15 b15,
      c16 := fnC (ok_q_form F16 T ih) (PySem.W.mg_of X G a16) k16 b16,
      c17 := fnC (ok_q_has_let F17 T ih) (PySem.W.mg_of X G a17) k17 b17,
      c18 := fnC (ok_q_look_at_pairs F18 T ih) (PySem.W.mg_of X G a18) k18 b18,
      c19 := fnC (ok_q_same_heads F19 T ih) (PySem.W.mg_of X G a19) k19 b19,
      c20 := fnC (ok_q_shared_shape F20 T ih) (PySem.W.mg_of X G a20) k20 b20,
      c21 := fnC (ok_q_kind_for F21 T ih) (PySem.W.mg_of X G a21) k21 b21,
      c22 := fnC (ok_q_read_off F22 T ih) (PySem.W.mg_of X G a22) k22 b22,
      c23 := fnC (ok_q_law_cell_at F23 T ih) (PySem.W.mg_of X G a23) k23 b23,
      c24 := fnC (ok_q_law_shape F24 T ih) (PySem.W.mg_of X G a24) k24 b24,
      c25 := fnC (ok_q_law_gaps F25 T ih) (PySem.W.mg_of X G a25) k25 b25,
      c26 := fnC (ok_q_law_leaf F26 T ih) (PySem.W.mg_of X G a26) k26 b26,
      c27 := fnC (ok_q_law_piece F27 T ih) (PySem.W.mg_of X G a27) k27 b27,
      c28 := fnC (ok_q_law_filled F28 T ih) (PySem.W.mg_of X G a28) k28 b28,
      c29 := fnC (ok_q_law_fit F29 T ih) (PySem.W.mg_of X G a29) k29 b29,
      c30 := fnC (ok_q_law_loud F30 T ih) (PySem.W.mg_of X G a30) k30 b30,
      c31 := fnC (ok_q_law_head F31 T ih) (PySem.W.mg_of X G a31) k31 b31,
      c32 := fnC (ok_q_law_row_good F32 T ih) (PySem.W.mg_of X G a32) k32 b32,
      c33 := fnC (ok_q_law_told F33 T ih) (PySem.W.mg_of X G a33) k33 b33,
      c34 := fnC (ok_q_law_fillings F34 T ih) (PySem.W.mg_of X G a34) k34 b34,
      c35 := fnC (ok_q_law F35 T ih) (PySem.W.mg_of X G a35) k35 b35 }
  exact law_of (ok_q_law F35 T (all 199)) law_true
end K71
open PySem PySem.W PyProof.Rows
theorem PySem.Challenge.cw_recastle_k71_most_special_holds : PySem.Challenge.rw_recastle_k71_most_special.Holds := by
  w_on; o_law; k_head; (case hw => w_witness2)
  k_fill
  refine L2.walk_of (l := PySem.Challenge.rw_recastle_k71_most_special) (n := 63) (k := 200) (x := "_law_script") (CX := fun w => L2.CX (PySem.Challenge.rw_recastle_k71_most_special).prog w) (sp := fun w => Dn.spLaw _) rfl (by decide) rfl ⟨rfl, by decide, by decide⟩ (fun w h Y => PySem.W.kIn_of Y) ?F (fun _ _ a ns hl hO hS => ⟨a, ns, rfl, Dn.sqR_of hO hS, hl, fun _ => rfl⟩) (fun _ _ _ _ _ h => by obtain ⟨_, _, _, _, _, _, _, _, _, _, _, _, z⟩ := h; exact z)
  case F =>
    intro w mg fa h KX G hmg
    refine' K71.all_mk KX G hmg ?a0 ?l0 ?c0 ?k0 ?a1 ?l1 ?c1 ?k1 ?a2 ?l2 ?c2 ?k2 ?a3 ?l3 ?c3 ?k3 ?a4 ?l4 ?c4 ?k4 ?a5 ?l5 ?c5 ?k5 ?a6 ?l6 ?c6 ?k6 ?a7 ?l7 ?c7 ?k7 ?a8 ?l8 ?c8 ?k8 ?lt8 ?vt8 ?a9 ?l9 ?c9 ?k9 ?a10 ?l10 ?c10 ?k10 ?a11 ?l11 ?c11 ?k11 ?a12 ?l12 ?c12 ?k12 ?a13 ?l13 ?c13 ?k13 ?a14 ?l14 ?c14 ?k14 ?a15 ?l15 ?c15 ?k15 ?a16 ?l16 ?c16 ?k16 ?a17 ?l17 ?c17 ?k17 ?a18 ?l18 ?c18 ?k18 ?a19 ?l19 ?c19 ?k19 ?a20 ?l20 ?c20 ?k20 ?a21 ?l21 ?c21 ?k21 ?a22 ?l22 ?c22 ?k22 ?a23 ?l23 ?c23 ?k23 ?a24 ?l24 ?c24 ?k24 ?a25 ?l25 ?c25 ?k25 ?a26 ?l26 ?c26 ?k26 ?a27 ?l27 ?c27 ?k27 ?a28 ?l28 ?c28 ?k28 ?a29 ?l29 ?c29 ?k29 ?a30 ?l30 ?c30 ?k30 ?a31 ?l31 ?c31 ?k31 ?a32 ?l32 ?c32 ?k32 ?a33 ?l33 ?c33 ?k33 ?a34 ?l34 ?c34 ?k34 ?a35 ?l35 ?c35 ?k35 ?z_dict ?z_enumerate ?z_isinstance ?z_len ?z_list ?z_range ?z_set ?z_sorted ?z_tuple ?z_zip ?a_LEAVES ?l_LEAVES ?v_LEAVES ?a_LETTERS ?a_LOUD ?l_LOUD ?v_LOUD
    (case a0 => k_is)
    (case l0 => k_is)
    (case c0 => k_is)
    (case k0 => k_is)
    (case a1 => k_is)
    (case l1 => k_is)
    (case c1 => k_is)
    (case k1 => k_is)
    (case a2 => k_is)
    (case l2 => k_is)
    (case c2 => k_is)
    (case k2 => k_is)
    (case a3 => k_is)
    (case l3 => k_is)
    (case c3 => k_is)
    (case k3 => k_is)
    (case a4 => k_is)
    (case l4 => k_is)
    (case c4 => k_is)
    (case k4 => k_is)
    (case a5 => k_is)
    (case l5 => k_is)
    (case c5 => k_is)
    (case k5 => k_is)
    (case a6 => k_is)
    (case l6 => k_is)
    (case c6 => k_is)
    (case k6 => k_is)
    (case a7 => k_is)
    (case l7 => k_is)
    (case c7 => k_is)
    (case k7 => k_is)
    (case a8 => k_is)
    (case l8 => k_is)
    (case c8 => k_is)
    (case k8 => k_is)
    (case lt8 => k_is)
    (case vt8 => exact .cons rfl (.nil))
    (case a9 => k_is)
    (case l9 => k_is)
    (case c9 => k_is)
    (case k9 => k_is)
    (case a10 => k_is)
    (case l10 => k_is)
    (case c10 => k_is)
    (case k10 => k_is)
    (case a11 => k_is)
    (case l11 => k_is)
    (case c11 => k_is)
    (case k11 => k_is)
    (case a12 => k_is)
    (case l12 => k_is)
    (case c12 => k_is)
    (case k12 => k_is)
    (case a13 => k_is)
    (case l13 => k_is)
    (case c13 => k_is)
    (case k13 => k_is)
    (case a14 => k_is)
    (case l14 => k_is)
    (case c14 => k_is)
    (case k14 => k_is)
    (case a15 => k_is)
    (case l15 => k_is)
    (case c15 => k_is)
    (case k15 => k_is)
    (case a16 => k_is)
    (case l16 => k_is)
    (case c16 => k_is)
    (case k16 => k_is)
    (case a17 => k_is)
    (case l17 => k_is)
    (case c17 => k_is)
    (case k17 => k_is)
    (case a18 => k_is)
    (case l18 => k_is)
    (case c18 => k_is)
    (case k18 => k_is)
    (case a19 => k_is)
    (case l19 => k_is)
    (case c19 => k_is)
    (case k19 => k_is)
    (case a20 => k_is)
    (case l20 => k_is)
    (case c20 => k_is)
    (case k20 => k_is)
    (case a21 => k_is)
    (case l21 => k_is)
    (case c21 => k_is)
    (case k21 => k_is)
    (case a22 => k_is)
    (case l22 => k_is)
    (case c22 => k_is)
    (case k22 => k_is)
    (case a23 => k_is)
    (case l23 => k_is)
    (case c23 => k_is)
    (case k23 => k_is)
    (case a24 => k_is)
    (case l24 => k_is)
    (case c24 => k_is)
    (case k24 => k_is)
    (case a25 => k_is)
    (case l25 => k_is)
    (case c25 => k_is)
    (case k25 => k_is)
    (case a26 => k_is)
    (case l26 => k_is)
    (case c26 => k_is)
    (case k26 => k_is)
    (case a27 => k_is)
    (case l27 => k_is)
    (case c27 => k_is)
    (case k27 => k_is)
    (case a28 => k_is)
    (case l28 => k_is)
    (case c28 => k_is)
    (case k28 => k_is)
    (case a29 => k_is)
    (case l29 => k_is)
    (case c29 => k_is)
    (case k29 => k_is)
    (case a30 => k_is)
    (case l30 => k_is)
    (case c30 => k_is)
    (case k30 => k_is)
    (case a31 => k_is)
    (case l31 => k_is)
    (case c31 => k_is)
    (case k31 => k_is)
    (case a32 => k_is)
    (case l32 => k_is)
    (case c32 => k_is)
    (case k32 => k_is)
    (case a33 => k_is)
    (case l33 => k_is)
    (case c33 => k_is)
    (case k33 => k_is)
    (case a34 => k_is)
    (case l34 => k_is)
    (case c34 => k_is)
    (case k34 => k_is)
    (case a35 => k_is)
    (case l35 => k_is)
    (case c35 => k_is)
    (case k35 => k_is)
    (case z_dict => k_is)
    (case z_enumerate => k_is)
    (case z_isinstance => k_is)
    (case z_len => k_is)
    (case z_list => k_is)
    (case z_range => k_is)
    (case z_set => k_is)
    (case z_sorted => k_is)
    (case z_tuple => k_is)
    (case z_zip => k_is)
    (case a_LEAVES => k_is)
    (case l_LEAVES => k_is)
    (case v_LEAVES => exact .cons ⟨_, rfl⟩ (.cons ⟨_, rfl⟩ (.cons ⟨_, rfl⟩ (.cons ⟨_, rfl⟩ (.cons ⟨_, rfl⟩ (.nil))))))
    (case a_LETTERS => k_is)
    (case a_LOUD => k_is)
    (case l_LOUD => k_is)
    (case v_LOUD => exact .cons ⟨_, rfl⟩ (.cons ⟨_, rfl⟩ (.cons ⟨_, rfl⟩ (.nil))))
