import PyProof.Rows.All
import Wide.All
import OpenK.AllK
import Wide.FinOn
import HandS.ForMost
import HandS.Exc
import HandS.TryOnly
import HandS.TryMany
import HandS.ExcInit
import HandS.ExcField
import HandS.ExcIs
import HandS.CallSlots
import HandS.IsInst
import HandS.Walk
import HandS.HeadHook2
import HandS.TupAny
import HandS.TupMul
import HandS.WideBits
import HandS.Wide
import KE.KExcIs
import HandS.Defaults
import HandS.Zip
import HandS.Rev
import HandS.RevRange
import HandS.Conv
import KE.GoesMore
import HandS.HeadEnd
import HandS.EndBits
import HandS.Words
import HandS.More
import HandS.TupLe
import HandS.Dict
import HandS.Gcd
import KE.KMathGC
import HandS.Head3
import KE.KStateDown
import Lean
import HandS.Head0
import HandS.Head1
import HandS.Head2
import PySem.Challenge.RW_everydealt_k96_whole_least_walks
set_option Elab.async false
set_option linter.all false
set_option maxRecDepth 100000
set_option maxHeartbeats 4000000
namespace FL
open PySem PySem.Spec L2
set_option autoImplicit false

/-! ### values, objects, results -/
inductive U where
  | non | bl (b : Bool) | int (i : Int) | str (x : Str) | tup (xs : List U) | rl (xs : List U) | wt (xs : List U) | ref (l : Nat)
  deriving Inhabited
inductive OU where
  | lst (xs : List U) | dct (kvs : List (U × U)) | dtp (kvs : List (U × U)) | ins (c : Str) (fs : List (Str × U))
  deriving Inhabited
abbrev Gp := List OU
abbrev Ev := List (Option U)
inductive R (α : Type) where
  | ok (a : α) (G : Gp) | exc (c : Str) (fs : List (Str × U)) (G : Gp) | bad
inductive SR where
  | nx (e : Ev) (G : Gp) | ret (u : U) (G : Gp) | brk (e : Ev) (G : Gp) | ct (e : Ev) (G : Gp) | exc (c : Str) (fs : List (Str × U)) (e : Ev) (G : Gp) | bad
def R.bind {α β : Type} (r : R α) (k : α → Gp → R β) : R β := match r with
  | .ok a G => k a G
  | .exc c fs G => .exc c fs G
  | .bad => .bad
def R.andThen {α : Type} (r : R α) (e : Ev) (k : α → Gp → SR) : SR := match r with
  | .ok a G => k a G
  | .exc c fs G => .exc c fs e G
  | .bad => .bad
theorem R.bind_ok {α β : Type} (a : α) (G : Gp) (k : α → Gp → R β) : (R.ok a G).bind k = k a G := rfl
theorem R.andThen_ok {α : Type} (a : α) (G : Gp) (e : Ev) (k : α → Gp → SR) : (R.ok a G).andThen e k = k a G := rfl

/-! ### the relation -/
/-- the written part, and what else is held of the heap (Z): it stays where lists, instances change and where things are new -/
structure Keeps (K : PySem.W.Frag) (H H' : Hp) : Prop where
  tup : ∀ a vs, H a = some (.tup vs) → H' a = some (.tup vs)
  frz : ∀ a o u, H a = some (.frz o u) → H' a = some (.frz o u)
  xd : ∀ a fs, H a = some (.xd fs) → H' a = some (.xd fs)
structure ZZ (K : PySem.W.Frag) where
  er : Option (Nat × Addr)
  P : List Addr → Hp → Prop
  st : ∀ ρ ρ' H H', ρ <+: ρ' → Keeps K H H' → P ρ H → P ρ' H'
structure KZ where
  K : PySem.W.Frag
  Z : ZZ K
def zT {K : PySem.W.Frag} : ZZ K := ⟨none, fun _ _ => True, fun _ _ _ _ _ _ _ => trivial⟩
abbrev kz (X : Cx) (Z : ZZ X.K) : KZ := ⟨X.K, Z⟩
def RLs (K : KZ) (H : Hp) (a : Addr) (xs : List V) : Prop :=
  (∃ o, H a = some (.frz o (.lst xs))) ∨
    ∃ (o : Obj) (its : Array Value) (n : Nat), K.K.lookup a = some o ∧ o.cls = .type "list" ∧ o.dict = none ∧ o.data = .seq its n ∧ its.size ≤ sizeLine ∧ Vals xs its.toList
theorem RLs.sq {K : KZ} {H : Hp} {a : Addr} {xs : List V} (h : RLs K H a xs) : SqL K.K H a xs := by
  rcases h with ⟨o, h⟩ | h
  · exact .inl (.inr ⟨o, h⟩)
  · exact .inr h
/-- a tuple: tracked -/
def TupAt (K : KZ) (H : Hp) (a : Addr) (xs : List V) : Prop := H a = some (.tup xs)
theorem TupAt.sq {K : KZ} {H : Hp} {a : Addr} {xs : List V} (h : TupAt K H a xs) : SqT K.K H a xs := .inl (.inl h)
/-- a tuple of the written part -/
def TupWs (K : KZ) (a : Addr) (xs : List V) : Prop :=
  ∃ (o : Obj) (its : Array Value) (n : Nat), K.K.lookup a = some o ∧ o.cls = .type "tuple" ∧ o.data = .seq its n ∧ its.size ≤ sizeLine ∧ Vals xs its.toList
theorem TupWs.sq {K : KZ} {H : Hp} {a : Addr} {xs : List V} (h : TupWs K a xs) : SqT K.K H a xs := .inr h
mutual
inductive RU (K : KZ) (ρ : List Addr) (H : Hp) : U → V → Prop
  | non : RU K ρ H .non .non
  | bl (b : Bool) : RU K ρ H (.bl b) (.bl b)
  | int (i : Int) : RU K ρ H (.int i) (.int i)
  | str (x : Str) : RU K ρ H (.str x) (.str x)
  | ref {l : Nat} {a : Addr} (h : ρ[l]? = some a) : RU K ρ H (.ref l) (.ref a)
  | tup {xs : List U} {vs : List V} {a : Addr} (h : TupAt K H a vs) (r : RUs K ρ H xs vs) : RU K ρ H (.tup xs) (.ref a)
  | rl {xs : List U} {vs : List V} {a : Addr} (h : RLs K H a vs) (r : RUs K ρ H xs vs) : RU K ρ H (.rl xs) (.ref a)
  | wt {xs : List U} {vs : List V} {a : Addr} (h : TupWs K a vs) (r : RUs K ρ H xs vs) : RU K ρ H (.wt xs) (.ref a)
inductive RUs (K : KZ) (ρ : List Addr) (H : Hp) : List U → List V → Prop
  | nil : RUs K ρ H [] []
  | cons {x : U} {v : V} {xs : List U} {vs : List V} (h : RU K ρ H x v) (t : RUs K ρ H xs vs) : RUs K ρ H (x :: xs) (v :: vs)
end
abbrev Stb (K : KZ) (H H' : Hp) : Prop := Keeps K.K H H'
theorem Stb.refl {K : KZ} {H : Hp} : Stb K H H := ⟨fun _ _ h => h, fun _ _ _ h => h, fun _ _ h => h⟩
theorem Stb.trans {K : KZ} {H H1 H2 : Hp} (a : Stb K H H1) (b : Stb K H1 H2) : Stb K H H2 := ⟨fun x vs h => b.tup x vs (a.tup x vs h), fun x o u h => b.frz x o u (a.frz x o u h), fun x fs h => b.xd x fs (a.xd x fs h)⟩
theorem Stb.tupAt {K : KZ} {H H' : Hp} {a : Addr} {xs : List V} (s : Stb K H H') (h : TupAt K H a xs) : TupAt K H' a xs := s.tup _ _ h
theorem Stb.rls {K : KZ} {H H' : Hp} {a : Addr} {xs : List V} (s : Stb K H H') (h : RLs K H a xs) : RLs K H' a xs := by
  rcases h with ⟨o, h⟩ | h
  · exact .inl ⟨o, s.frz _ _ _ h⟩
  · exact .inr h
theorem pre_get {ρ ρ' : List Addr} (p : ρ <+: ρ') {l : Nat} {a : Addr} (h : ρ[l]? = some a) : ρ'[l]? = some a := by
  obtain ⟨t, rfl⟩ := p
  rw [List.getElem?_append_left (by exact (List.getElem?_eq_some_iff.mp h).1)]
  exact h
section
variable {K : KZ} {ρ ρ' : List Addr} {H H' : Hp}
mutual
theorem RU.mono (p : ρ <+: ρ') (s : Stb K H H') : ∀ {u : U} {v : V}, RU K ρ H u v → RU K ρ' H' u v
  | _, _, .non => .non
  | _, _, .bl b => .bl b
  | _, _, .int i => .int i
  | _, _, .str x => .str x
  | _, _, .ref h => .ref (pre_get p h)
  | _, _, .tup h r => .tup (s.tupAt h) (RUs.mono p s r)
  | _, _, .rl h r => .rl (s.rls h) (RUs.mono p s r)
  | _, _, .wt h r => .wt h (RUs.mono p s r)
theorem RUs.mono (p : ρ <+: ρ') (s : Stb K H H') : ∀ {us : List U} {vs : List V}, RUs K ρ H us vs → RUs K ρ' H' us vs
  | _, _, .nil => .nil
  | _, _, .cons h t => .cons (RU.mono p s h) (RUs.mono p s t)
end
theorem RUs.len : ∀ {us : List U} {vs : List V}, RUs K ρ H us vs → us.length = vs.length
  | _, _, .nil => rfl
  | _, _, .cons _ t => by rw [List.length_cons, List.length_cons, t.len]
theorem RUs.get : ∀ {us : List U} {vs : List V}, RUs K ρ H us vs → ∀ {i : Nat} {v : V}, vs[i]? = some v → ∃ u, us[i]? = some u ∧ RU K ρ H u v
  | _, _, .nil, _, _, e => by simp at e
  | _, _, .cons h t, 0, v, e => by simp at e; subst e; exact ⟨_, rfl, h⟩
  | _, _, .cons h t, i + 1, v, e => by
    obtain ⟨u, e1, r⟩ := t.get (i := i) (v := v) (by simpa using e)
    exact ⟨u, by simpa using e1, r⟩
theorem RUs.getU : ∀ {us : List U} {vs : List V}, RUs K ρ H us vs → ∀ {i : Nat} {u : U}, us[i]? = some u → ∃ v, vs[i]? = some v ∧ RU K ρ H u v
  | _, _, .nil, _, _, e => by simp at e
  | _, _, .cons h t, 0, v, e => by simp at e; subst e; exact ⟨_, rfl, h⟩
  | _, _, .cons h t, i + 1, v, e => by
    obtain ⟨u, e1, r⟩ := t.getU (i := i) (u := v) (by simpa using e)
    exact ⟨u, by simpa using e1, r⟩
theorem RUs.append : ∀ {us : List U} {vs : List V}, RUs K ρ H us vs → ∀ {us' : List U} {vs' : List V}, RUs K ρ H us' vs' → RUs K ρ H (us ++ us') (vs ++ vs')
  | _, _, .nil, _, _, r => r
  | _, _, .cons h t, _, _, r => .cons h (t.append r)
theorem RUs.set : ∀ {us : List U} {vs : List V}, RUs K ρ H us vs → ∀ {u : U} {v : V}, RU K ρ H u v → ∀ i : Nat, RUs K ρ H (us.set i u) (vs.set i v)
  | _, _, .nil, _, _, _, _ => .nil
  | _, _, .cons _ t, _, _, r, 0 => .cons r t
  | _, _, .cons h t, _, _, r, i + 1 => .cons h (t.set r i)
theorem RUs.take : ∀ {us : List U} {vs : List V}, RUs K ρ H us vs → ∀ n : Nat, RUs K ρ H (us.take n) (vs.take n)
  | _, _, .nil, n => by simpa using RUs.nil
  | _, _, .cons _ _, 0 => .nil
  | _, _, .cons h t, n + 1 => .cons h (t.take n)
theorem RUs.drop : ∀ {us : List U} {vs : List V}, RUs K ρ H us vs → ∀ n : Nat, RUs K ρ H (us.drop n) (vs.drop n)
  | _, _, .nil, n => by simpa using RUs.nil
  | _, _, .cons h t, 0 => .cons h t
  | _, _, .cons _ t, n + 1 => t.drop n
theorem RUs.ints : ∀ (ns : List Int), RUs K ρ H (ns.map U.int) (ns.map V.int)
  | [] => .nil
  | n :: r => .cons (.int n) (RUs.ints r)
end
/-- fields: the same names, related values -/
def RFs (K : KZ) (ρ : List Addr) (H : Hp) (fs : List (Str × U)) (vfs : List (Str × V)) : Prop := fs.map (·.1) = vfs.map (·.1) ∧ RUs K ρ H (fs.map (·.2)) (vfs.map (·.2))
theorem RFs.mono {K : KZ} {ρ ρ' : List Addr} {H H' : Hp} (p : ρ <+: ρ') (s : Stb K H H') {fs : List (Str × U)} {vfs : List (Str × V)} (r : RFs K ρ H fs vfs) : RFs K ρ' H' fs vfs := ⟨r.1, r.2.mono p s⟩
/-- keys: ints, texts -/
def uk : U → Option Key
  | .int i => some (.inl i)
  | .str x => some (.inr x)
  | _ => none
def uks : List U → Option (List Key)
  | [] => some []
  | x :: xs => match uk x, uks xs with
    | some k, some ks => some (k :: ks)
    | _, _ => none
def utk : U → Option (List Key)
  | .tup xs => uks xs
  | _ => none
inductive RKs {κ : Type} (f : U → Option κ) (K : KZ) (ρ : List Addr) (H : Hp) : List (U × U) → List (κ × V) → Prop
  | nil : RKs f K ρ H [] []
  | cons {x u : U} {k : κ} {v : V} {kvs : List (U × U)} {vk : List (κ × V)} (hk : f x = some k) (r : RU K ρ H u v) (t : RKs f K ρ H kvs vk) : RKs f K ρ H ((x, u) :: kvs) ((k, v) :: vk)
theorem RKs.mono {κ : Type} {f : U → Option κ} {K : KZ} {ρ ρ' : List Addr} {H H' : Hp} (p : ρ <+: ρ') (s : Stb K H H') : ∀ {kvs : List (U × U)} {vk : List (κ × V)}, RKs f K ρ H kvs vk → RKs f K ρ' H' kvs vk
  | _, _, .nil => .nil
  | _, _, .cons hk r t => .cons hk (r.mono p s) (RKs.mono p s t)
def RO (K : KZ) (ρ : List Addr) (H : Hp) : OU → HO → Prop
  | .lst xs, .lst vs => RUs K ρ H xs vs
  | .dct kvs, .dK vk => RKs uk K ρ H kvs vk
  | .dtp kvs, .dT vk => RKs utk K ρ H kvs vk
  | .ins c fs, .ins C _ vfs => C = He.ga K.K c ∧ RFs K ρ H fs vfs
  | _, _ => False
theorem RO.mono {K : KZ} {ρ ρ' : List Addr} {H H' : Hp} (p : ρ <+: ρ') (s : Stb K H H') {o : OU} {ho : HO} (r : RO K ρ H o ho) : RO K ρ' H' o ho := by
  cases o <;> cases ho <;> first | exact r.elim | exact RUs.mono p s r | exact RKs.mono p s r | exact ⟨r.1, r.2.mono p s⟩
structure Sim (K : KZ) (ρ : List Addr) (G : Gp) (H : Hp) : Prop where
  len : ρ.length = G.length
  nd : ρ.Nodup
  ob : ∀ (l : Nat) (o : OU) (a : Addr), G[l]? = some o → ρ[l]? = some a → ∃ ho, H a = some ho ∧ RO K ρ H o ho
  z : K.Z.P ρ H
/-- a slot list -/
def REq0 (K : KZ) (ρ : List Addr) (H : Hp) : Ev → St → Prop
  | [], [] => True
  | u :: us, v :: vs => (match u, v with
    | none, _ => True
    | some x, some y => RU K ρ H x y
    | some _, none => False) ∧ REq0 K ρ H us vs
  | _, _ => False
section
variable {K : KZ} {ρ ρ' : List Addr} {H H' : Hp} {G : Gp}
theorem REq0.mono (p : ρ <+: ρ') (s : Stb K H H') : ∀ {env : Ev} {σ : St}, REq0 K ρ H env σ → REq0 K ρ' H' env σ
  | [], [], _ => trivial
  | none :: us, v :: vs, h => ⟨h.1, REq0.mono p s h.2⟩
  | some x :: us, some y :: vs, h => ⟨RU.mono p s h.1, REq0.mono p s h.2⟩
  | some x :: us, none :: vs, h => h.1.elim
theorem REq0.get : ∀ {env : Ev} {σ : St}, REq0 K ρ H env σ → ∀ {i : Nat} {u : U}, env[i]? = some (some u) → ∃ v, σ[i]? = some (some v) ∧ RU K ρ H u v
  | [], [], _, _, _, e => by simp at e
  | none :: us, v :: vs, h, 0, u, e => by simp at e
  | some x :: us, some y :: vs, h, 0, u, e => by simp at e; subst e; exact ⟨y, rfl, h.1⟩
  | some x :: us, none :: vs, h, _, _, _ => h.1.elim
  | none :: us, v :: vs, h, i + 1, u, e => by
    obtain ⟨w, e1, r⟩ := REq0.get h.2 (i := i) (u := u) (by simpa using e)
    exact ⟨w, by simpa using e1, r⟩
  | some x :: us, some y :: vs, h, i + 1, u, e => by
    obtain ⟨w, e1, r⟩ := REq0.get h.2 (i := i) (u := u) (by simpa using e)
    exact ⟨w, by simpa using e1, r⟩
theorem REq0.set {x : U} {y : V} (r : RU K ρ H x y) : ∀ {env : Ev} {σ : St}, REq0 K ρ H env σ → ∀ i : Nat, REq0 K ρ H (env.set i (some x)) (σ.set i (some y))
  | [], [], _, _ => trivial
  | none :: us, v :: vs, h, 0 => ⟨r, h.2⟩
  | some _ :: us, some _ :: vs, h, 0 => ⟨r, h.2⟩
  | some x :: us, none :: vs, h, _ => h.1.elim
  | none :: us, v :: vs, h, i + 1 => ⟨h.1, REq0.set r h.2 i⟩
  | some _ :: us, some _ :: vs, h, i + 1 => ⟨h.1, REq0.set r h.2 i⟩
theorem REq0.unset : ∀ {env : Ev} {σ : St}, REq0 K ρ H env σ → ∀ i : Nat, REq0 K ρ H (env.set i none) (σ.set i none)
  | [], [], _, _ => trivial
  | none :: us, v :: vs, h, 0 => ⟨trivial, h.2⟩
  | some _ :: us, some _ :: vs, h, 0 => ⟨trivial, h.2⟩
  | some x :: us, none :: vs, h, _ => h.1.elim
  | none :: us, v :: vs, h, i + 1 => ⟨h.1, REq0.unset h.2 i⟩
  | some _ :: us, some _ :: vs, h, i + 1 => ⟨h.1, REq0.unset h.2 i⟩
def startE (n : Nat) (us : List U) : Ev := us.map some ++ List.replicate (n - us.length) none
theorem REq0.nones : ∀ n : Nat, REq0 K ρ H (List.replicate n none) (List.replicate n none)
  | 0 => trivial
  | n + 1 => ⟨trivial, REq0.nones n⟩
theorem REq0.start_app : ∀ {us : List U} {vs : List V}, RUs K ρ H us vs → ∀ n : Nat, REq0 K ρ H (us.map some ++ List.replicate n none) (vs.map some ++ List.replicate n none)
  | _, _, .nil, n => REq0.nones n
  | _, _, .cons h t, n => ⟨h, REq0.start_app t n⟩
theorem REq0.start {us : List U} {vs : List V} (r : RUs K ρ H us vs) (N : List Str) : REq0 K ρ H (startE N.length us) (L2.start N vs) := by
  unfold startE L2.start
  rw [r.len]
  exact REq0.start_app r _

end
/-- the slots; where an error is handled (er), its name's slot, as long as nothing else is stored there, holds it -/
def REq (K : KZ) (ρ : List Addr) (H : Hp) (env : Ev) (σ : St) : Prop := REq0 K ρ H env σ ∧ ∀ i a, K.Z.er = some (i, a) → env[i]? = some none → σ[i]? = some (some (.ref a))
section
variable {K : KZ} {ρ ρ' : List Addr} {H H' : Hp} {env : Ev} {σ : St}
theorem REq0.len : ∀ {env : Ev} {σ : St}, REq0 K ρ H env σ → env.length = σ.length
  | [], [], _ => rfl
  | none :: us, v :: vs, h => by rw [List.length_cons, List.length_cons, REq0.len h.2]
  | some _ :: us, some _ :: vs, h => by rw [List.length_cons, List.length_cons, REq0.len h.2]
  | some x :: us, none :: vs, h => h.1.elim
theorem REq.mono (p : ρ <+: ρ') (s : Stb K H H') (e : REq K ρ H env σ) : REq K ρ' H' env σ := ⟨e.1.mono p s, e.2⟩
theorem REq.get (e : REq K ρ H env σ) {i : Nat} {u : U} (h : env[i]? = some (some u)) : ∃ v, σ[i]? = some (some v) ∧ RU K ρ H u v := e.1.get h
theorem REq.set {x : U} {y : V} (r : RU K ρ H x y) (e : REq K ρ H env σ) (i : Nat) : REq K ρ H (env.set i (some x)) (σ.set i (some y)) := by
  refine ⟨e.1.set r i, fun j a h1 h2 => ?_⟩
  by_cases hj : j = i
  · subst hj
    by_cases hl : j < env.length
    · rw [List.getElem?_set_self hl] at h2; cases h2
    · rw [List.set_eq_of_length_le (by omega)] at h2
      rw [List.set_eq_of_length_le (by rw [← e.1.len]; omega)]
      exact e.2 j a h1 h2
  · rw [List.getElem?_set_ne (Ne.symm hj)] at h2 ⊢
    exact e.2 j a h1 h2
theorem REq.unset (hZ : K.Z.er = none) (e : REq K ρ H env σ) (i : Nat) : REq K ρ H (env.set i none) (σ.set i none) := ⟨e.1.unset i, fun j a h => by rw [hZ] at h; cases h⟩
theorem REq.start (hZ : K.Z.er = none) {us : List U} {vs : List V} (r : RUs K ρ H us vs) (N : List Str) : REq K ρ H (startE N.length us) (L2.start N vs) := ⟨REq0.start r N, fun j a h => by rw [hZ] at h; cases h⟩
end

section
variable {K : KZ} {ρ ρ' : List Addr} {H H' : Hp} {G : Gp}
/-! ### heaps change -/
theorem stb_new {p : Addr} {o : HO} (hp : H p = none) : Stb K H (upd H p o) := by
  refine ⟨fun a vs h => ?_, fun a q u h => ?_, fun a fs h => ?_⟩
  · rw [upd_ne (ne_of_none h hp)]; exact h
  · rw [upd_ne (ne_of_none h hp)]; exact h
  · rw [upd_ne (ne_of_none h hp)]; exact h
theorem stb_write {p : Addr} {o o' : HO} (hp : H p = some o) (n1 : ∀ xs, o ≠ .tup xs) (n2 : ∀ q u, o ≠ .frz q u) (n3 : ∀ fs, o ≠ .xd fs) : Stb K H (upd H p o') := by
  refine ⟨fun a vs h => ?_, fun a q u h => ?_, fun a fs h => ?_⟩
  · rw [upd_ne (ne_of h hp (fun z => n1 _ z.symm))]; exact h
  · rw [upd_ne (ne_of h hp (fun z => n2 _ _ z.symm))]; exact h
  · rw [upd_ne (ne_of h hp (fun z => n3 _ z.symm))]; exact h
theorem pre_refl {ρ : List Addr} : ρ <+: ρ := List.prefix_refl ρ
theorem Sim.addr (S : Sim K ρ G H) {l : Nat} {o : OU} (h : G[l]? = some o) : ∃ a, ρ[l]? = some a := by
  have h1 : l < G.length := (List.getElem?_eq_some_iff.mp h).1
  exact ⟨ρ[l]'(by rw [S.len]; exact h1), List.getElem?_eq_getElem _⟩
theorem Sim.back (S : Sim K ρ G H) {l : Nat} {a : Addr} (h : ρ[l]? = some a) : ∃ o ho, G[l]? = some o ∧ H a = some ho ∧ RO K ρ H o ho := by
  have h1 : l < ρ.length := (List.getElem?_eq_some_iff.mp h).1
  have h2 : G[l]? = some (G[l]'(by rw [← S.len]; exact h1)) := List.getElem?_eq_getElem _
  obtain ⟨ho, e, r⟩ := S.ob l _ a h2 h
  exact ⟨_, ho, h2, e, r⟩
/-- a heap that keeps all that is tracked -/
theorem Sim.keep (S : Sim K ρ G H) (k : ∀ a o, H a = some o → H' a = some o) (s : Stb K H H') : Sim K ρ G H' :=
  ⟨S.len, S.nd, fun l o a h1 h2 => by
    obtain ⟨ho, e, r⟩ := S.ob l o a h1 h2
    exact ⟨ho, k _ _ e, r.mono pre_refl s⟩, K.Z.st _ _ _ _ pre_refl s S.z⟩
theorem Sim.tup (S : Sim K ρ G H) {p : Addr} {o : HO} (hp : H p = none) : Sim K ρ G (upd H p o) :=
  S.keep (fun a q e => by rw [upd_ne (ne_of_none e hp)]; exact e) (stb_new hp)
theorem Sim.new (S : Sim K ρ G H) {p : Addr} {o : OU} {ho : HO} (hp : H p = none) (r : RO K (ρ ++ [p]) (upd H p ho) o ho) : Sim K (ρ ++ [p]) (G ++ [o]) (upd H p ho) := by
  have hn : p ∉ ρ := fun hm => by
    obtain ⟨l, e⟩ := List.getElem?_of_mem hm
    obtain ⟨o', ho', _, e2, _⟩ := S.back e
    rw [hp] at e2; cases e2
  refine ⟨by simp [S.len], ?_, fun l q a h1 h2 => ?_, K.Z.st _ _ _ _ ⟨[p], rfl⟩ (stb_new hp) S.z⟩
  · rw [List.nodup_append]
    refine ⟨S.nd, by simp, ?_⟩
    intro a ha b hb
    simp at hb
    subst hb
    rintro rfl
    exact hn ha
  · by_cases hl : l < G.length
    · rw [List.getElem?_append_left hl] at h1
      rw [List.getElem?_append_left (by rw [S.len]; exact hl)] at h2
      obtain ⟨w, e, rw'⟩ := S.ob l q a h1 h2
      exact ⟨w, by rw [upd_ne (ne_of_none e hp)]; exact e, rw'.mono ⟨[p], rfl⟩ (stb_new hp)⟩
    · have e : l = G.length := by
        have := (List.getElem?_eq_some_iff.mp h1).1
        simp at this; omega
      subst e
      rw [List.getElem?_append_right (Nat.le_refl _)] at h1
      rw [List.getElem?_append_right (by rw [S.len]; exact Nat.le_refl _)] at h2
      simp [S.len] at h1 h2
      subst h1 h2
      exact ⟨ho, upd_same, r⟩
theorem Sim.write (S : Sim K ρ G H) {l : Nat} {a : Addr} {o : OU} {ho old : HO} (ha : ρ[l]? = some a) (e0 : H a = some old) (n1 : ∀ xs, old ≠ .tup xs) (n2 : ∀ q u, old ≠ .frz q u) (n3 : ∀ fs, old ≠ .xd fs) (r : RO K ρ (upd H a ho) o ho) : Sim K ρ (G.set l o) (upd H a ho) := by
  refine ⟨by simp [S.len], S.nd, fun m q b h1 h2 => ?_, K.Z.st _ _ _ _ pre_refl (stb_write e0 n1 n2 n3) S.z⟩
  by_cases hm : m = l
  · subst hm
    rw [ha] at h2; cases h2
    have hl : m < G.length := by
      have := (List.getElem?_eq_some_iff.mp ha).1
      rw [S.len] at this; exact this
    rw [List.getElem?_set_self hl] at h1
    cases h1
    exact ⟨ho, upd_same, r⟩
  · rw [List.getElem?_set_ne (Ne.symm hm)] at h1
    obtain ⟨w, e, rw'⟩ := S.ob m q b h1 h2
    have hne : b ≠ a := by
      rintro rfl
      obtain ⟨h3, e3⟩ := List.getElem?_eq_some_iff.mp h2
      obtain ⟨h4, e4⟩ := List.getElem?_eq_some_iff.mp ha
      exact hm ((List.getElem_inj S.nd).mp (e3.trans e4.symm))
    exact ⟨w, by rw [upd_ne hne]; exact e, rw'.mono pre_refl (stb_write e0 n1 n2 n3)⟩
end

/-! ### ends -/
abbrev Rel (α β : Type) := List Addr → Hp → α → β → Prop
def Post {α β : Type} (K : KZ) (rel : Rel α β) (ρ : List Addr) (H : Hp) (r : R α) (Q : β → Hp → Prop) (E : XK) : Prop := match r with
  | .ok a G' => ∀ b ρ' H', ρ <+: ρ' → Stb K H H' → Sim K ρ' G' H' → rel ρ' H' a b → Q b H'
  | .exc c fs G' => ∀ d vfs ρ' H', ρ <+: ρ' → Stb K H H' → Sim K ρ' G' H' → H' d = some (.xd vfs) → RFs K ρ' H' fs vfs → E (.ref (He.ga K.K c)) (some d) H'
  | .bad => False
theorem Post.lift {α β : Type} {K : KZ} {rel : Rel α β} {ρ ρ1 : List Addr} {H H1 : Hp} {r : R α} {Q : β → Hp → Prop} {E : XK} (h : Post K rel ρ H r Q E) (p : ρ <+: ρ1) (s : Stb K H H1) : Post K rel ρ1 H1 r Q E := by
  cases r with
  | ok a G => exact fun b ρ' H' p' s' S q => h b ρ' H' (p.trans p') (s.trans s') S q
  | exc c fs G => exact fun d vfs ρ' H' p' s' S e q => h d vfs ρ' H' (p.trans p') (s.trans s') S e q
  | bad => exact h
theorem Post.end_ {α β : Type} {K : KZ} {rel : Rel α β} {ρ : List Addr} {H : Hp} {a : α} {G : Gp} {Q : β → Hp → Prop} {E : XK} (h : Post K rel ρ H (.ok a G) Q E) {b : β} (S : Sim K ρ G H) (r : rel ρ H a b) : Q b H := h b ρ H pre_refl Stb.refl S r
/-- a reading of its own -/
def tG {α β : Type} (K : KZ) (rel : Rel α β) (W : WX) (f : Ev → Gp → R α) : St → Hp → (β → Hp → Prop) → Prop := fun σ H Q => ∃ ρ G env, Sim K ρ G H ∧ REq K ρ H env σ ∧ Post K rel ρ H (f env G) Q fun c d H' => W c d σ H'
/-- one step, then the rest -/
theorem step {α β γ δ : Type} {K : KZ} {rel : Rel α β} {rel' : Rel γ δ} {W : WX} {f : Ev → Gp → R α} {k : α → Gp → R γ} {σ : St} {H : Hp} {ρ : List Addr} {G : Gp} {env : Ev} {Q : δ → Hp → Prop} (S : Sim K ρ G H) (e : REq K ρ H env σ)
    (h : Post K rel' ρ H ((f env G).bind k) Q fun c d H' => W c d σ H') :
    tG K rel W f σ H fun b H1 => ∃ ρ1 G1 a, ρ <+: ρ1 ∧ Stb K H H1 ∧ Sim K ρ1 G1 H1 ∧ REq K ρ1 H1 env σ ∧ rel ρ1 H1 a b ∧ Post K rel' ρ1 H1 (k a G1) Q fun c d H' => W c d σ H' := by
  refine ⟨ρ, G, env, S, e, ?_⟩
  cases q : f env G with
  | ok a G1 =>
    rw [q] at h
    exact fun b ρ1 H1 p s S1 r => ⟨ρ1, G1, a, p, s, S1, e.mono p s, r, Post.lift h p s⟩
  | exc c fs G1 => rw [q] at h; exact h
  | bad => rw [q] at h; exact h
def tF (K : KZ) (W : WX) (f : Ev → Gp → R U) : TE := tG K (RU K) W f
def ttF (K : KZ) (W : WX) (f : Ev → Gp → R Bool) : TT := tG K (fun _ _ a b => a = b) W f
def taF (K : KZ) (W : WX) (f : Ev → Gp → R (List U)) : TA := tG K (RUs K) W f
abbrev FE (X : Cx) (Z : ZZ X.K) (W : WX) (e : Expr) (f : Ev → Gp → R U) : Prop := PE X e (tF (kz X Z) W f)
abbrev FT (X : Cx) (Z : ZZ X.K) (W : WX) (e : Expr) (f : Ev → Gp → R Bool) : Prop := PT X e (ttF (kz X Z) W f)
abbrev FA (X : Cx) (Z : ZZ X.K) (W : WX) (es : List Expr) (f : Ev → Gp → R (List U)) : Prop := PA X es (taF (kz X Z) W f)
theorem PEimp {X : Cx} {e : Expr} {t t' : TE} (h : PE X e t) (i : ∀ σ H Q, t' σ H Q → t σ H Q) : PE X e t' := ⟨fun pins s σ H Q I q => h.run pins s σ H Q I (i σ H Q q)⟩
theorem PTimp {X : Cx} {e : Expr} {t t' : TT} (h : PT X e t) (i : ∀ σ H Q, t' σ H Q → t σ H Q) : PT X e t' := ⟨fun pins s σ H Q I q => h.run pins s σ H Q I (i σ H Q q)⟩
theorem PWimp {X : Cx} {e : Expr} {t t' : TT} (h : PW X e t) (i : ∀ σ H Q, t' σ H Q → t σ H Q) : PW X e t' := ⟨fun wh pins s σ H Q I q => h.run wh pins s σ H Q I (i σ H Q q)⟩
theorem PAimp {X : Cx} {e : List Expr} {t t' : TA} (h : PA X e t) (i : ∀ σ H Q, t' σ H Q → t σ H Q) : PA X e t' := ⟨fun pos pins s σ H Q I q => h.run pos pins s σ H Q I (i σ H Q q)⟩
theorem PSimp {X : Cx} {e : Stmt} {t t' : TS} (h : PS X e t) (i : ∀ D σ H, t' D σ H → t D σ H) : PS X e t' := ⟨fun pins s σ H D I q => h.run pins s σ H D I (i D σ H q)⟩
theorem PSsimp {X : Cx} {e : List Stmt} {t t' : TS} (h : PSs X e t) (i : ∀ D σ H, t' D σ H → t D σ H) : PSs X e t' := ⟨fun pins s σ H D I q => h.run pins s σ H D I (i D σ H q)⟩
theorem PGimp {X : Cx} {e : Expr} {t t' : TG} (h : PG X e t) (i : ∀ v σ H Q, t' v σ H Q → t v σ H Q) : PG X e t' := ⟨fun pins s σ H v u Q I r q => h.run pins s σ H v u Q I r (i v σ H Q q)⟩

/-! ### names, constants -/
def eVar (i : Nat) : Ev → Gp → R U := fun env G => match env[i]? with
  | some (some u) => .ok u G
  | _ => .bad
def eC (u : U) : Ev → Gp → R U := fun _ G => .ok u G
section
variable {X : Cx} {Z : ZZ X.K} {W : WX} {pos : Pos}
theorem tVar_of {K : KZ} {W : WX} {i : Nat} (σ : St) (H : Hp) (Q : VK) (h : tF K W (eVar i) σ H Q) : tVar i σ H Q := by
  obtain ⟨ρ, G, env, S, e, h⟩ := h
  cases q : env[i]? with
  | none => simp only [eVar, q] at h; exact h.elim
  | some o =>
    cases o with
    | none => simp only [eVar, q] at h; exact h.elim
    | some u =>
      simp only [eVar, q] at h
      obtain ⟨v, e1, r⟩ := e.get q
      exact ⟨v, e1, h.end_ S r⟩
theorem fv (i : Nat) {x : Str} {pos : Pos} (hN : X.N[i]? = some x := by rfl) (hv : Vis X.env.scope x := by first | exact Or.inl rfl | exact Or.inr (Or.inl rfl) | exact Or.inr (Or.inr rfl)) (hd : (x == ("__debug__" : Str)) = false := by decide)
    (hcd : (x == ("__classdict__" : Str)) = false := by decide) : FE X Z W (.Name x pos) (eVar i) := PEimp (pe_var hN hv hd hcd) tVar_of
theorem tC_of {K : KZ} {W : WX} {u : U} {v : V} (r : ∀ ρ H, RU K ρ H u v) (σ : St) (H : Hp) (Q : VK) (h : tF K W (eC u) σ H Q) : tC v σ H Q := by
  obtain ⟨ρ, G, env, S, e, h⟩ := h
  exact h.end_ (a := u) S (r _ _)
theorem fint {i j pos} : FE X Z W (.Constant (.int i) j pos) (eC (.int i)) := PEimp pe_int (tC_of fun _ _ => .int i)
theorem fbl {b j pos} : FE X Z W (.Constant (.bool b) j pos) (eC (.bl b)) := PEimp pe_bl (tC_of fun _ _ => .bl b)
theorem fnon {j pos} : FE X Z W (.Constant .none j pos) (eC .non) := PEimp pe_non (tC_of fun _ _ => .non)
theorem fstr {x j pos} : FE X Z W (.Constant (.str x) j pos) (eC (.str x)) := PEimp pe_str (tC_of fun _ _ => .str x)
/-- a module's constant: an int, a text -/
theorem fglobI {x : Str} {i : Int} (hg : Gl X x) (hm : ∃ t, X.mg x = some (.int i t)) (hd : (x == ("__debug__" : Str)) = false := by decide) : FE X Z W (.Name x pos) (eC (.int i)) := by
  obtain ⟨t, hm⟩ := hm
  exact PEimp (pe_glob (v := .int i) hg hm ⟨t, rfl⟩ hd) (tC_of fun _ _ => .int i)
theorem fglobS {x z : Str} (hg : Gl X x) (hm : ∃ t, X.mg x = some (.str z t)) (hd : (x == ("__debug__" : Str)) = false := by decide) : FE X Z W (.Name x pos) (eC (.str z)) := by
  obtain ⟨t, hm⟩ := hm
  exact PEimp (pe_glob (v := .str z) hg hm ⟨t, rfl⟩ hd) (tC_of fun _ _ => .str z)
end

/-! ### operators -/
def eBin (g : U → U → Gp → R U) (fa fb : Ev → Gp → R U) : Ev → Gp → R U := fun env G => (fa env G).bind fun x G1 => (fb env G1).bind fun y G2 => g x y G2
def eUn (g : U → Gp → R U) (fa : Ev → Gp → R U) : Ev → Gp → R U := fun env G => (fa env G).bind g
/-- the operator's reading does what g says -/
def Op2 (K : KZ) (r : R2) (g : U → U → Gp → R U) : Prop := ∀ ρ G H x y v w Q E, Sim K ρ G H → RU K ρ H x v → RU K ρ H y w → Post K (RU K) ρ H (g x y G) Q E → r v w H Q
def Op1 (K : KZ) (r : V → Hp → VK → Prop) (g : U → Gp → R U) : Prop := ∀ ρ G H x v Q E, Sim K ρ G H → RU K ρ H x v → Post K (RU K) ρ H (g x G) Q E → r v H Q
theorem tG_mono {α β : Type} {K : KZ} {rel : Rel α β} {W : WX} {f : Ev → Gp → R α} {σ : St} {H : Hp} {Q Q' : β → Hp → Prop} (h : tG K rel W f σ H Q) (i : ∀ b H1, Q b H1 → Q' b H1) : tG K rel W f σ H Q' := by
  obtain ⟨ρ, G, env, S, e, h⟩ := h
  refine ⟨ρ, G, env, S, e, ?_⟩
  cases q : f env G with
  | ok a G1 => rw [q] at h; exact fun b ρ1 H1 p s S1 r => i _ _ (h b ρ1 H1 p s S1 r)
  | exc c fs G1 => rw [q] at h; exact h
  | bad => rw [q] at h; exact h
theorem tOp_of {K : KZ} {W : WX} {r : R2} {g : U → U → Gp → R U} {fa fb : Ev → Gp → R U} (o : Op2 K r g) (σ : St) (H : Hp) (Q : VK) (h : tF K W (eBin g fa fb) σ H Q) : tOp r (tF K W fa) (tF K W fb) σ H Q := by
  obtain ⟨ρ, G, env, S, e, h⟩ := h
  exact tG_mono (step S e h) fun v H1 ⟨ρ1, G1, x, p1, s1, S1, e1, r1, h1⟩ => tG_mono (step S1 e1 h1) fun w H2 ⟨ρ2, G2, y, p2, s2, S2, e2, r2, h2⟩ => o _ _ _ _ _ _ _ _ _ S2 (r1.mono p2 s2) r2 h2
end FL

set_option Elab.async false
set_option linter.all false
set_option maxRecDepth 100000
set_option maxHeartbeats 4000000
set_option autoImplicit false
namespace FL
open PySem PySem.Spec L2

/-! ### binary operators: from two FE to one -/
section
variable {X : Cx} {Z : ZZ X.K} {W : WX} {a b : Expr} {fa fb : Ev → Gp → R U} {pos : Pos}
theorem fop {op : Operator} {r : R2} {g : U → U → Gp → R U} (o : Op2 (kz X Z) r g) (ho : OpR X (binaryOp op) r) (ha : FE X Z W a fa) (hb : FE X Z W b fb) : FE X Z W (.BinOp a op b pos) (eBin g fa fb) := PEimp (pe_op ho ha hb) (tOp_of o)
theorem fcmp {op : CmpOp} {r : R2} {g : U → U → Gp → R U} (o : Op2 (kz X Z) r g) (ho : OpR X (compareOp op) r) (ha : FE X Z W a fa) (hb : FE X Z W b fb) (hm : behindInMarks op b = false) : FE X Z W (.Compare a [op] [b] pos) (eBin g fa fb) := PEimp (pe_cmpR ho ha hb hm) (tOp_of o)
theorem fun1 {op : UnaryOp} {r : V → Hp → VK → Prop} {g : U → Gp → R U} (o : Op1 (kz X Z) r g) (ho : UnR X (unaryOp op) r) (ha : FE X Z W a fa) : FE X Z W (.UnaryOp op a pos) (eUn g fa) := by
  refine PEimp (pe_un ho ha) fun σ H Q h => ?_
  obtain ⟨ρ, G, env, S, e, h⟩ := h
  exact tG_mono (step S e h) fun v H1 ⟨ρ1, G1, x, p1, s1, S1, e1, r1, h1⟩ => o _ _ _ _ _ _ _ S1 r1 h1
end

/-! ### tests -/
/-- a value that is a bool -/
def asB (r : R U) : R Bool := r.bind fun u G => match u with
  | .bl b => .ok b G
  | _ => .bad
def bVal (f : Ev → Gp → R U) : Ev → Gp → R Bool := fun env G => asB (f env G)
section
variable {X : Cx} {Z : ZZ X.K} {W : WX} {a b : Expr} {fa fb : Ev → Gp → R U} {pos : Pos}
theorem tB_of {K : KZ} {W : WX} {f : Ev → Gp → R U} (σ : St) (H : Hp) (Q : Bool → Hp → Prop) (h : ttF K W (bVal f) σ H Q) : tF K W f σ H fun x H1 => ∃ k, x = .bl k ∧ Q k H1 := by
  obtain ⟨ρ, G, env, S, e, h⟩ := h
  refine tG_mono (step (k := fun u G => match u with | .bl b => R.ok b G | _ => .bad) S e h) fun v H1 ⟨ρ1, G1, x, p1, s1, S1, e1, r1, h1⟩ => ?_
  cases r1 with
  | bl k => exact ⟨k, rfl, h1.end_ S1 rfl⟩
  | _ => exact h1.elim
theorem ft_cmp {op : CmpOp} {r : R2} {g : U → U → Gp → R U} (o : Op2 (kz X Z) r g) (ho : OpR X (compareOp op) r) (ha : FE X Z W a fa) (hb : FE X Z W b fb) (hm : behindInMarks op b = false) : FT X Z W (.Compare a [op] [b] pos) (bVal (eBin g fa fb)) := by
  refine PTimp (pt_cmpR ho ha hb hm) fun σ H Q h => ?_
  exact tOp_of o σ H _ (tB_of σ H Q h)
theorem ft_val {e : Expr} {f : Ev → Gp → R U} (h : FE X Z W e f) (he : ∀ whole, isTrue e X.env whole = (do let v ← whole; standAt e.pos; holding [v] (truthy v)) := by intro _; rfl) : FT X Z W e (bVal f) :=
  PTimp (pt_val h he) fun σ H Q q => tB_of σ H Q q
/-- truth of any value -/
def truU (u : U) (G : Gp) : R Bool := match u with
  | .non => .ok false G
  | .bl b => .ok b G
  | .int i => .ok (i != 0) G
  | .str x => if x.length ≤ 16777216 then .ok (x.length != 0) G else .bad
  | .tup xs => .ok (!xs.isEmpty) G
  | .rl xs => .ok (!xs.isEmpty) G
  | .wt xs => .ok (!xs.isEmpty) G
  | .ref l => match G[l]? with
    | some (.lst xs) => .ok (!xs.isEmpty) G
    | _ => .bad
end
def tAndB (f g : Ev → Gp → R Bool) : Ev → Gp → R Bool := fun env G => (f env G).bind fun c G1 => if c = true then g env G1 else .ok false G1
def tOrB (f g : Ev → Gp → R Bool) : Ev → Gp → R Bool := fun env G => (f env G).bind fun c G1 => if c = true then .ok true G1 else g env G1
def tNotB (f : Ev → Gp → R Bool) : Ev → Gp → R Bool := fun env G => (f env G).bind fun c G1 => .ok (!c) G1
abbrev FW (X : Cx) (Z : ZZ X.K) (W : WX) (e : Expr) (f : Ev → Gp → R Bool) : Prop := PW X e (ttF (kz X Z) W f)
section
variable {X : Cx} {Z : ZZ X.K} {W : WX} {a b : Expr} {fa fb : Ev → Gp → R Bool} {pos : Pos} {rest : List Expr}
theorem fw_and1 (ha : FT X Z W a fa) : FW X Z W (.BoolOp .And [a] pos) fa := pw_and1 ha
theorem fw_or1 (ha : FT X Z W a fa) : FW X Z W (.BoolOp .Or [a] pos) fa := pw_or1 ha
theorem fw_and (ha : FT X Z W a fa) (hb : FW X Z W (.BoolOp .And (b :: rest) pos) fb) : FW X Z W (.BoolOp .And (a :: b :: rest) pos) (tAndB fa fb) := by
  refine PWimp (pw_and ha hb) fun σ H Q h => ?_
  obtain ⟨ρ, G, env, S, e, h⟩ := h
  refine tG_mono (step S e h) fun v H1 ⟨ρ1, G1, x, p1, s1, S1, e1, r1, h1⟩ => ?_
  subst r1
  cases x with
  | true => exact ⟨ρ1, G1, env, S1, e1, h1⟩
  | false => exact h1.end_ S1 rfl
theorem fw_or (ha : FT X Z W a fa) (hb : FW X Z W (.BoolOp .Or (b :: rest) pos) fb) : FW X Z W (.BoolOp .Or (a :: b :: rest) pos) (tOrB fa fb) := by
  refine PWimp (pw_or ha hb) fun σ H Q h => ?_
  obtain ⟨ρ, G, env, S, e, h⟩ := h
  refine tG_mono (step S e h) fun v H1 ⟨ρ1, G1, x, p1, s1, S1, e1, r1, h1⟩ => ?_
  subst r1
  cases x with
  | false => exact ⟨ρ1, G1, env, S1, e1, h1⟩
  | true => exact h1.end_ S1 rfl
theorem ft_w (h : FW X Z W a fa) : FT X Z W a fa := PW.pt h
theorem ft_not (ha : FT X Z W a fa) : FT X Z W (.UnaryOp .Not a pos) (tNotB fa) := by
  refine PTimp (pt_not ha) fun σ H Q h => ?_
  obtain ⟨ρ, G, env, S, e, h⟩ := h
  refine tG_mono (step S e h) fun v H1 ⟨ρ1, G1, x, p1, s1, S1, e1, r1, h1⟩ => ?_
  subst r1
  exact h1.end_ S1 rfl
end
/-! .. as values -/
def eAnd (f g : Ev → Gp → R U) : Ev → Gp → R U := fun env G => (bVal f env G).bind fun c G1 => if c = true then g env G1 else .ok (.bl false) G1
def eOr (f g : Ev → Gp → R U) : Ev → Gp → R U := fun env G => (bVal f env G).bind fun c G1 => if c = true then .ok (.bl true) G1 else g env G1
def eNot (f : Ev → Gp → R U) : Ev → Gp → R U := fun env G => (bVal f env G).bind fun c G1 => .ok (.bl (!c)) G1
def eIf (c : Ev → Gp → R Bool) (f g : Ev → Gp → R U) : Ev → Gp → R U := fun env G => (c env G).bind fun b G1 => if b = true then f env G1 else g env G1
section
variable {X : Cx} {Z : ZZ X.K} {W : WX} {a b c : Expr} {fa fb : Ev → Gp → R U} {fc : Ev → Gp → R Bool} {pos : Pos} {rest : List Expr} {op : BoolOp}
theorem bStep {K : KZ} {W : WX} {γ δ : Type} {rel' : Rel γ δ} {f : Ev → Gp → R U} {k : Bool → Gp → R γ} {σ : St} {H : Hp} {ρ : List Addr} {G : Gp} {env : Ev} {Q : δ → Hp → Prop} (S : Sim K ρ G H) (e : REq K ρ H env σ)
    (h : Post K rel' ρ H ((bVal f env G).bind k) Q fun c d H' => W c d σ H') :
    tF K W f σ H fun v H1 => ∃ c, v = .bl c ∧ ∃ ρ1 G1, Sim K ρ1 G1 H1 ∧ REq K ρ1 H1 env σ ∧ Post K rel' ρ1 H1 (k c G1) Q fun c d H' => W c d σ H' := by
  refine tB_of σ H _ ?_
  refine tG_mono (step (f := bVal f) (rel := fun _ _ a b => a = b) S e h) fun v H1 ⟨ρ1, G1, x, p1, s1, S1, e1, r1, h1⟩ => ?_
  subst r1
  exact ⟨ρ1, G1, S1, e1, h1⟩
theorem fone (ha : FE X Z W a fa) : FE X Z W (.BoolOp op [a] pos) fa := pe_one ha
theorem fand (ha : FE X Z W a fa) (hb : FE X Z W (.BoolOp .And (b :: rest) pos) fb) : FE X Z W (.BoolOp .And (a :: b :: rest) pos) (eAnd fa fb) := by
  refine PEimp (pe_and ha hb) fun σ H Q h => ?_
  obtain ⟨ρ, G, env, S, e, h⟩ := h
  refine tG_mono (bStep S e h) fun v H1 ⟨c, ev, ρ1, G1, S1, e1, h1⟩ => ⟨c, ev, ?_⟩
  cases c with
  | true => exact ⟨ρ1, G1, env, S1, e1, h1⟩
  | false => exact h1.end_ S1 (.bl _)
theorem for_ (ha : FE X Z W a fa) (hb : FE X Z W (.BoolOp .Or (b :: rest) pos) fb) : FE X Z W (.BoolOp .Or (a :: b :: rest) pos) (eOr fa fb) := by
  refine PEimp (pe_or ha hb) fun σ H Q h => ?_
  obtain ⟨ρ, G, env, S, e, h⟩ := h
  refine tG_mono (bStep S e h) fun v H1 ⟨c, ev, ρ1, G1, S1, e1, h1⟩ => ⟨c, ev, ?_⟩
  cases c with
  | false => exact ⟨ρ1, G1, env, S1, e1, h1⟩
  | true => exact h1.end_ S1 (.bl _)
theorem fnot (ha : FE X Z W a fa) : FE X Z W (.UnaryOp .Not a pos) (eNot fa) := by
  refine PEimp (pe_not ha) fun σ H Q h => ?_
  obtain ⟨ρ, G, env, S, e, h⟩ := h
  exact tG_mono (bStep S e h) fun v H1 ⟨c, ev, ρ1, G1, S1, e1, h1⟩ => ⟨c, ev, h1.end_ S1 (.bl _)⟩
theorem fif (hc : FT X Z W c fc) (ha : FE X Z W a fa) (hb : FE X Z W b fb) : FE X Z W (.IfExp c a b pos) (eIf fc fa fb) := by
  refine PEimp (pe_ifExp hc ha hb) fun σ H Q h => ?_
  obtain ⟨ρ, G, env, S, e, h⟩ := h
  refine tG_mono (step S e h) fun v H1 ⟨ρ1, G1, x, p1, s1, S1, e1, r1, h1⟩ => ?_
  subst r1
  cases x with
  | true => exact ⟨ρ1, G1, env, S1, e1, h1⟩
  | false => exact ⟨ρ1, G1, env, S1, e1, h1⟩
end

/-! ### arguments -/
def aNil : Ev → Gp → R (List U) := fun _ G => .ok [] G
def aCons (f : Ev → Gp → R U) (g : Ev → Gp → R (List U)) : Ev → Gp → R (List U) := fun env G => (f env G).bind fun x G1 => (g env G1).bind fun xs G2 => .ok (x :: xs) G2
section
variable {X : Cx} {Z : ZZ X.K} {W : WX} {e : Expr} {es : List Expr} {f : Ev → Gp → R U} {fs : Ev → Gp → R (List U)} {pos : Pos}
theorem fanil : FA X Z W [] aNil := by
  refine PAimp pa_nil fun σ H Q h => ?_
  obtain ⟨ρ, G, env, S, e, h⟩ := h
  exact Post.end_ (a := ([] : List U)) h S .nil
theorem facons (ha : FE X Z W e f) (hr : FA X Z W es fs) (hs : starEach (e :: es) X.env = (false, eval e X.env) :: starEach es X.env := by rfl) : FA X Z W (e :: es) (aCons f fs) := by
  refine PAimp (pa_cons ha hr hs) fun σ H Q h => ?_
  obtain ⟨ρ, G, env, S, e, h⟩ := h
  refine tG_mono (step S e h) fun v H1 ⟨ρ1, G1, x, p1, s1, S1, e1, r1, h1⟩ => ?_
  exact tG_mono (step S1 e1 h1) fun w H2 ⟨ρ2, G2, y, p2, s2, S2, e2, r2, h2⟩ => h2.end_ S2 (.cons (r1.mono p2 s2) r2)
/-- one step of a row of values -/
def eTup (g : Ev → Gp → R (List U)) : Ev → Gp → R U := fun env G => (g env G).bind fun xs G1 => if xs.length ≤ 16777216 then .ok (.tup xs) G1 else .bad
def eLst (g : Ev → Gp → R (List U)) : Ev → Gp → R U := fun env G => (g env G).bind fun xs G1 => if xs.length ≤ 16777216 then .ok (.ref G1.length) (G1 ++ [.lst xs]) else .bad
theorem line_eq : (sizeLine : Nat) = 16777216 := sizeLine_eq
theorem newTup {K : KZ} {ρ : List Addr} {G : Gp} {H : Hp} {xs : List U} {vs : List V} {Q : VK} {E : XK} (S : Sim K ρ G H) (r : RUs K ρ H xs vs) (h : Post K (RU K) ρ H (.ok (.tup xs) G) Q E) : ∀ p, H p = none → Q (.ref p) (upd H p (.tup vs)) :=
  fun p hp => h (.ref p) ρ _ pre_refl (stb_new hp) (S.tup hp) (.tup upd_same (r.mono pre_refl (stb_new hp)))
theorem newLst {K : KZ} {ρ : List Addr} {G : Gp} {H : Hp} {xs : List U} {vs : List V} {Q : VK} {E : XK} (S : Sim K ρ G H) (r : RUs K ρ H xs vs) (h : Post K (RU K) ρ H (.ok (.ref G.length) (G ++ [.lst xs])) Q E) : ∀ p, H p = none → Q (.ref p) (upd H p (.lst vs)) :=
  fun p hp => h (.ref p) (ρ ++ [p]) _ ⟨[p], rfl⟩ (stb_new hp) (S.new hp (show RUs K (ρ ++ [p]) _ xs vs from r.mono ⟨[p], rfl⟩ (stb_new hp))) (.ref (by rw [← S.len]; simp))
theorem ftup {k : Nat} (h : FA X Z W es fs) : FE X Z W (.Tuple es k pos) (eTup fs) := by
  refine PEimp (pe_tup h) fun σ H Q h => ?_
  obtain ⟨ρ, G, env, S, e, h⟩ := h
  refine tG_mono (step (rel := RUs (kz X Z)) S e h) fun v H1 ⟨ρ1, G1, x, p1, s1, S1, e1, r1, h1⟩ => ?_
  by_cases hl : x.length ≤ 16777216
  · rw [if_pos hl] at h1
    exact ⟨by rw [← r1.len, line_eq]; exact hl, newTup S1 r1 h1⟩
  · rw [if_neg hl] at h1; exact h1.elim
theorem flst {pos : Pos} (h : FA X Z W es fs) : FE X Z W (.List es pos) (eLst fs) := by
  refine PEimp (pe_lst h) fun σ H Q h => ?_
  obtain ⟨ρ, G, env, S, e, h⟩ := h
  refine tG_mono (step (rel := RUs (kz X Z)) S e h) fun v H1 ⟨ρ1, G1, x, p1, s1, S1, e1, r1, h1⟩ => ?_
  by_cases hl : x.length ≤ 16777216
  · rw [if_pos hl] at h1
    exact ⟨by rw [← r1.len, line_eq]; exact hl, newLst S1 r1 h1⟩
  · rw [if_neg hl] at h1; exact h1.elim
end

/-! ### statements -/
def PostS (K : KZ) (ρ : List Addr) (H : Hp) (r : SR) (D : Ends) (W : WX) : Prop := match r with
  | .nx env' G' => ∀ σ' ρ' H', ρ <+: ρ' → Stb K H H' → Sim K ρ' G' H' → REq K ρ' H' env' σ' → D.nx σ' H'
  | .ret u G' => ∀ v ρ' H', ρ <+: ρ' → Stb K H H' → Sim K ρ' G' H' → RU K ρ' H' u v → D.rt v H'
  | .brk env' G' => ∀ σ' ρ' H', ρ <+: ρ' → Stb K H H' → Sim K ρ' G' H' → REq K ρ' H' env' σ' → D.bk σ' H'
  | .ct env' G' => ∀ σ' ρ' H', ρ <+: ρ' → Stb K H H' → Sim K ρ' G' H' → REq K ρ' H' env' σ' → D.ct σ' H'
  | .exc c fs env' G' => ∀ σ' d vfs ρ' H', ρ <+: ρ' → Stb K H H' → Sim K ρ' G' H' → REq K ρ' H' env' σ' → H' d = some (.xd vfs) → RFs K ρ' H' fs vfs → W (.ref (He.ga K.K c)) (some d) σ' H'
  | .bad => False
theorem PostS.lift {K : KZ} {ρ ρ1 : List Addr} {H H1 : Hp} {r : SR} {D : Ends} {W : WX} (h : PostS K ρ H r D W) (p : ρ <+: ρ1) (s : Stb K H H1) : PostS K ρ1 H1 r D W := by
  cases r with
  | nx e G => exact fun σ ρ' H' p' s' S q => h σ ρ' H' (p.trans p') (s.trans s') S q
  | brk e G => exact fun σ ρ' H' p' s' S q => h σ ρ' H' (p.trans p') (s.trans s') S q
  | ct e G => exact fun σ ρ' H' p' s' S q => h σ ρ' H' (p.trans p') (s.trans s') S q
  | ret u G => exact fun v ρ' H' p' s' S q => h v ρ' H' (p.trans p') (s.trans s') S q
  | exc c fs e G => exact fun σ d vfs ρ' H' p' s' S q1 q2 q3 => h σ d vfs ρ' H' (p.trans p') (s.trans s') S q1 q2 q3
  | bad => exact h
theorem PostS.nx_ {K : KZ} {ρ : List Addr} {H : Hp} {env : Ev} {G : Gp} {D : Ends} {W : WX} (h : PostS K ρ H (.nx env G) D W) {σ : St} (S : Sim K ρ G H) (e : REq K ρ H env σ) : D.nx σ H := h σ ρ H pre_refl Stb.refl S e
def tS (K : KZ) (W : WX) (g : Ev → Gp → SR) : TS := fun D σ H => ∃ ρ G env, Sim K ρ G H ∧ REq K ρ H env σ ∧ PostS K ρ H (g env G) D W
abbrev FS (X : Cx) (Z : ZZ X.K) (W : WX) (st : Stmt) (g : Ev → Gp → SR) : Prop := PS X st (tS (kz X Z) W g)
abbrev FSs (X : Cx) (Z : ZZ X.K) (W : WX) (st : List Stmt) (g : Ev → Gp → SR) : Prop := PSs X st (tS (kz X Z) W g)
theorem stepS {α β : Type} {K : KZ} {rel : Rel α β} {W : WX} {f : Ev → Gp → R α} {k : α → Gp → SR} {σ : St} {H : Hp} {ρ : List Addr} {G : Gp} {env : Ev} {D : Ends} (S : Sim K ρ G H) (e : REq K ρ H env σ)
    (h : PostS K ρ H ((f env G).andThen env k) D W) :
    tG K rel W f σ H fun b H1 => ∃ ρ1 G1 a, ρ <+: ρ1 ∧ Stb K H H1 ∧ Sim K ρ1 G1 H1 ∧ REq K ρ1 H1 env σ ∧ rel ρ1 H1 a b ∧ PostS K ρ1 H1 (k a G1) D W := by
  refine ⟨ρ, G, env, S, e, ?_⟩
  cases q : f env G with
  | ok a G1 =>
    rw [q] at h
    exact fun b ρ1 H1 p s S1 r => ⟨ρ1, G1, a, p, s, S1, e.mono p s, r, PostS.lift h p s⟩
  | exc c fs G1 =>
    rw [q] at h
    exact fun d vfs ρ' H' p s S1 q1 q2 => h σ d vfs ρ' H' p s S1 (e.mono p s) q1 q2
  | bad => rw [q] at h; exact h
def sNil : Ev → Gp → SR := fun env G => .nx env G
def sSeq (g1 g2 : Ev → Gp → SR) : Ev → Gp → SR := fun env G => match g1 env G with
  | .nx env' G' => g2 env' G'
  | r => r
def sExpr (f : Ev → Gp → R U) : Ev → Gp → SR := fun env G => (f env G).andThen env fun _ G1 => .nx env G1
def sRet (f : Ev → Gp → R U) : Ev → Gp → SR := fun env G => (f env G).andThen env fun u G1 => .ret u G1
def sRetN : Ev → Gp → SR := fun _ G => .ret .non G
def sBrk : Ev → Gp → SR := fun env G => .brk env G
def sCt : Ev → Gp → SR := fun env G => .ct env G
def sIf (c : Ev → Gp → R Bool) (g1 g2 : Ev → Gp → SR) : Ev → Gp → SR := fun env G => (c env G).andThen env fun b G1 => if b = true then g1 env G1 else g2 env G1
def sAsg (f : Ev → Gp → R U) (gf : U → Ev → Gp → R Ev) : Ev → Gp → SR := fun env G => (f env G).andThen env fun u G1 => (gf u env G1).andThen env fun env' G2 => .nx env' G2
def gNm (i : Nat) : U → Ev → Gp → R Ev := fun u env G => .ok (env.set i (some u)) G
section
variable {X : Cx} {Z : ZZ X.K} {W : WX} {st : Stmt} {sts : List Stmt} {g g1 g2 : Ev → Gp → SR} {e c : Expr} {f : Ev → Gp → R U} {fc : Ev → Gp → R Bool} {pos : Pos}
theorem fsnil : FSs X Z W [] sNil := PSsimp pss_nil fun D σ H ⟨_, _, _, S, e, h⟩ => h.nx_ S e
theorem seqT {K : KZ} {W : WX} {g1 g2 : Ev → Gp → SR} (D : Ends) (σ : St) (H : Hp) (h : tS K W (sSeq g1 g2) D σ H) : tSeq (tS K W g1) (tS K W g2) D σ H := by
  obtain ⟨ρ, G, env, S, e, h⟩ := h
  refine ⟨ρ, G, env, S, e, ?_⟩
  unfold sSeq at h
  cases q : g1 env G with
  | nx env' G' => rw [q] at h; exact fun σ' ρ' H' p s S' e' => ⟨ρ', G', env', S', e', h.lift p s⟩
  | ret u G' => rw [q] at h; exact h
  | brk env' G' => rw [q] at h; exact h
  | ct env' G' => rw [q] at h; exact h
  | exc c fs env' G' => rw [q] at h; exact h
  | bad => rw [q] at h; exact h
theorem fscons (h1 : FS X Z W st g1) (h2 : FSs X Z W sts g2) : FSs X Z W (st :: sts) (sSeq g1 g2) := PSsimp (pss_cons h1 h2) seqT
theorem fsone (h1 : FS X Z W st g1) : FSs X Z W [st] g1 := pss_one h1
theorem fpass : FS X Z W (.Pass pos) sNil := PSimp ps_pass fun D σ H ⟨_, _, _, S, e, h⟩ => h.nx_ S e
theorem fbrk : FS X Z W (.Break pos) sBrk := PSimp ps_break fun D σ H ⟨_, _, _, S, e, h⟩ => h σ _ H pre_refl Stb.refl S e
theorem fct : FS X Z W (.Continue pos) sCt := PSimp ps_continue fun D σ H ⟨_, _, _, S, e, h⟩ => h σ _ H pre_refl Stb.refl S e
theorem fdoc {x j pos pos'} : FS X Z W (.Expr (.Constant (.str x) j pos) pos') sNil := PSimp ps_doc fun D σ H ⟨_, _, _, S, e, h⟩ => h.nx_ S e
theorem fexpr (he : FE X Z W e f) (hs : swapsWith e none pos.line X.env = pure false := by rfl) : FS X Z W (.Expr e pos) (sExpr f) := by
  refine PSimp (ps_expr he hs) fun D σ H ⟨ρ, G, env, S, e, h⟩ => ?_
  exact tG_mono (stepS S e h) fun v H1 ⟨ρ1, G1, x, p1, s1, S1, e1, r1, h1⟩ => h1.nx_ S1 e1
theorem fret (he : FE X Z W e f) : FS X Z W (.Return (some e) pos) (sRet f) := by
  refine PSimp (ps_ret he) fun D σ H ⟨ρ, G, env, S, e, h⟩ => ?_
  exact tG_mono (stepS S e h) fun v H1 ⟨ρ1, G1, x, p1, s1, S1, e1, r1, h1⟩ => h1 v _ _ pre_refl Stb.refl S1 r1
theorem fretN : FS X Z W (.Return none pos) sRetN := PSimp ps_retN fun D σ H ⟨_, _, _, S, e, h⟩ => h .non _ _ pre_refl Stb.refl S .non
theorem fsif {a b : List Stmt} (hc : FT X Z W c fc) (ha : FSs X Z W a g1) (hb : FSs X Z W b g2) : FS X Z W (.If c a b pos) (sIf fc g1 g2) := by
  refine PSimp (ps_if hc ha hb) fun D σ H ⟨ρ, G, env, S, e, h⟩ => ?_
  refine tG_mono (stepS S e h) fun v H1 ⟨ρ1, G1, x, p1, s1, S1, e1, r1, h1⟩ => ?_
  subst r1
  cases x with
  | true => exact ⟨ρ1, G1, env, S1, e1, h1⟩
  | false => exact ⟨ρ1, G1, env, S1, e1, h1⟩
/-! targets -/
def tgF (K : KZ) (gf : U → Ev → Gp → R Ev) : TG := fun v σ H Q => ∃ ρ G env u, Sim K ρ G H ∧ REq K ρ H env σ ∧ RU K ρ H u v ∧ Post K (REq K) ρ H (gf u env G) Q (fun _ _ _ => False)
abbrev FG (X : Cx) (Z : ZZ X.K) (e : Expr) (gf : U → Ev → Gp → R Ev) : Prop := PG X e (tgF (kz X Z) gf)
theorem fgname {i : Nat} {x : Str} (hN : X.N.Nodup) (hi : X.N[i]? = some x) (hx : Loc X.env.scope x) (hf : X.fn x = true ∨ X.env.scope.names.lookup x = some .local := by first | exact .inl rfl | exact .inr rfl | assumption) : FG X Z (.Name x pos) (gNm i) :=
  PGimp (pg_name hN hi hx hf) fun v σ H Q ⟨ρ, G, env, u, S, e, r, h⟩ => h.end_ S (e.set r i)
theorem toG {K : KZ} {W : WX} {gf : U → Ev → Gp → R Ev} {ρ1 : List Addr} {G1 : Gp} {H1 : Hp} {env : Ev} {σ : St} {x : U} {v : V} {D : Ends} (S1 : Sim K ρ1 G1 H1) (e1 : REq K ρ1 H1 env σ) (r1 : RU K ρ1 H1 x v)
    (hx : ∀ c fs G, gf x env G1 ≠ .exc c fs G) (h1 : PostS K ρ1 H1 ((gf x env G1).andThen env fun env' G2 => .nx env' G2) D W) : tgF K gf v σ H1 D.nx := by
  refine ⟨ρ1, G1, env, x, S1, e1, r1, ?_⟩
  cases q : gf x env G1 with
  | ok env' G' => rw [q] at h1; exact fun σ' ρ' H' p s S' e' => h1 σ' ρ' H' p s S' e'
  | exc c fs G' => exact absurd q (hx c fs G')
  | bad => rw [q] at h1; exact h1
/-- a target that lets no exception out -/
def NoX (gf : U → Ev → Gp → R Ev) : Prop := ∀ u env G c fs G', gf u env G ≠ .exc c fs G'
theorem fasg {tg : Expr} {gf : U → Ev → Gp → R Ev} (he : FE X Z W e f) (hg : FG X Z tg gf) (nx : NoX gf) (hs : swapsWithSole [tg] e pos.line X.env = pure false := by rfl) (hw : swappedStores [tg] e X.env = pure none := by rfl)
    (h1 : (assignEach [tg] X.env).map (·.2) = [assign tg X.env] := by rfl) : FS X Z W (.Assign [tg] e pos) (sAsg f gf) := by
  refine PSimp (ps_asg he hg hs hw h1) fun D σ H ⟨ρ, G, env, S, e, h⟩ => ?_
  exact tG_mono (stepS S e h) fun v H1 ⟨ρ1, G1, x, p1, s1, S1, e1, r1, h1⟩ => toG S1 e1 r1 (nx x env G1) h1
theorem fset {i : Nat} {x : Str} {pos' : Pos} (hN : X.N.Nodup) (hi : X.N[i]? = some x) (hx : Loc X.env.scope x) (he : FE X Z W e f) (hs : swapsWith e (some (.Name x pos')) pos.line X.env = pure false := by rfl)
    (hf : X.fn x = true ∨ X.env.scope.names.lookup x = some .local := by first | exact .inl rfl | exact .inr rfl | assumption) : FS X Z W (.Assign [.Name x pos'] e pos) (sAsg f (gNm i)) := by
  refine PSimp (ps_set hN hi hx he hs hf) fun D σ H ⟨ρ, G, env, S, e, h⟩ => ?_
  exact tG_mono (stepS S e h) fun v H1 ⟨ρ1, G1, x, p1, s1, S1, e1, r1, h1⟩ => h1 _ _ _ pre_refl Stb.refl S1 (e1.set r1 i)
theorem nxName (i : Nat) : NoX (gNm i) := fun _ _ _ _ _ _ h => nomatch h
end
/-! tuple targets -/
def gNil : List U → Ev → Gp → R Ev := fun us env G => match us with
  | [] => .ok env G
  | _ => .bad
def gCons (g : U → Ev → Gp → R Ev) (gs : List U → Ev → Gp → R Ev) : List U → Ev → Gp → R Ev := fun us env G => match us with
  | u :: r => (g u env G).bind fun env' G' => gs r env' G'
  | [] => .bad
def gTup (gs : List U → Ev → Gp → R Ev) (n : Nat) : U → Ev → Gp → R Ev := fun u env G => match u with
  | .tup xs => if xs.length = n then gs xs env G else .bad
  | _ => .bad
/-- a list or a tuple -/
def gSq (gs : List U → Ev → Gp → R Ev) (n : Nat) : U → Ev → Gp → R Ev := fun u env G => match u with
  | .tup xs => if xs.length = n then gs xs env G else .bad
  | .ref l => match G[l]? with
    | some (.lst xs) => if xs.length = n then gs xs env G else .bad
    | _ => .bad
  | _ => .bad
section
variable {X : Cx} {Z : ZZ X.K} {W : WX} {e : Expr} {es : List Expr} {pos : Pos}
def tgsF (K : KZ) (gs : List U → Ev → Gp → R Ev) : TGs := fun vs σ H Q => ∃ ρ G env us, Sim K ρ G H ∧ REq K ρ H env σ ∧ RUs K ρ H us vs ∧ Post K (REq K) ρ H (gs us env G) Q (fun _ _ _ => False)
abbrev FGs (X : Cx) (Z : ZZ X.K) (es : List Expr) (gs : List U → Ev → Gp → R Ev) : Prop := PGs X es (tgsF (kz X Z) gs)
theorem PGsimp {es : List Expr} {t t' : TGs} (h : PGs X es t) (i : ∀ vs σ H Q, t' vs σ H Q → t vs σ H Q) : PGs X es t' := ⟨fun pins s σ H vs us Q I r q => h.run pins s σ H vs us Q I r (i vs σ H Q q)⟩
theorem fgnil : FGs X Z [] gNil := by
  refine PGsimp pgs_nil fun vs σ H Q ⟨ρ, G, env, us, S, e, r, h⟩ => ?_
  cases r with
  | nil => exact ⟨rfl, h.end_ S e⟩
  | cons _ _ => exact h.elim
theorem fgcons {g : U → Ev → Gp → R Ev} {gs : List U → Ev → Gp → R Ev} (h1 : FG X Z e g) (h2 : FGs X Z es gs) (hs : (assignEach (e :: es) X.env).map (·.2) = assign e X.env :: (assignEach es X.env).map (·.2) := by rfl) : FGs X Z (e :: es) (gCons g gs) := by
  refine PGsimp (pgs_cons h1 h2 hs) fun vs σ H Q ⟨ρ, G, env, us, S, e, r, h⟩ => ?_
  cases r with
  | nil => exact h.elim
  | @cons x v xs vs hx hr =>
    refine ⟨v, vs, rfl, ρ, G, env, x, S, e, hx, ?_⟩
    have h : Post (kz X Z) (REq (kz X Z)) ρ H ((g x env G).bind fun env' G' => gs xs env' G') Q (fun _ _ _ => False) := h
    cases q : g x env G with
    | ok env' G' => rw [q] at h; exact fun σ' ρ' H' p s S' e' => ⟨ρ', G', env', xs, S', e', hr.mono p s, Post.lift h p s⟩
    | exc c fs G' => rw [q] at h; exact h
    | bad => rw [q] at h; exact h
theorem fgtup {k n : Nat} {gs : List U → Ev → Gp → R Ev} (hc : X.calm = true) (h : FGs X Z es gs) (hn : (assignEach es X.env).length = n := by rfl) (hst : (assignEach es X.env).findIdx? (·.1) = none := by rfl) : FG X Z (.Tuple es k pos) (gTup gs n) := by
  refine PGimp (pg_tup hc h hn hst) fun v σ H Q ⟨ρ, G, env, u, S, e, r, h⟩ => ?_
  cases r with
  | @tup xs vs a ht hr =>
    have h : Post (kz X Z) (REq (kz X Z)) ρ H (if xs.length = n then gs xs env G else .bad) Q (fun _ _ _ => False) := h
    by_cases hl : xs.length = n
    · rw [if_pos hl] at h
      exact ⟨a, vs, rfl, ht.sq, by rw [← hr.len]; exact hl, ρ, G, env, xs, S, e, hr, h⟩
    · rw [if_neg hl] at h; exact h.elim
  | _ => exact h.elim
end
end FL

set_option Elab.async false
set_option linter.all false
set_option maxRecDepth 100000
set_option maxHeartbeats 4000000
set_option autoImplicit false
namespace FL
open PySem PySem.Spec L2

def NoXs (gs : List U → Ev → Gp → R Ev) : Prop := ∀ us env G c fs G', gs us env G ≠ .exc c fs G'
theorem nxNil : NoXs gNil := fun us env G c fs G' h => by
  cases us <;> exact nomatch h
theorem nxCons {g : U → Ev → Gp → R Ev} {gs : List U → Ev → Gp → R Ev} (h1 : NoX g) (h2 : NoXs gs) : NoXs (gCons g gs) := fun us env G c fs G' h => by
  cases us with
  | nil => exact nomatch h
  | cons u r =>
    have h : (g u env G).bind (fun env' G' => gs r env' G') = .exc c fs G' := h
    cases q : g u env G with
    | ok env' G1 => rw [q] at h; exact h2 _ _ _ _ _ _ h
    | exc c' fs' G1 => exact h1 _ _ _ _ _ _ q
    | bad => rw [q] at h; exact nomatch h
theorem nxTup {gs : List U → Ev → Gp → R Ev} {n : Nat} (h : NoXs gs) : NoX (gTup gs n) := fun u env G c fs G' q => by
  cases u with
  | tup xs =>
    have q : (if xs.length = n then gs xs env G else .bad) = R.exc c fs G' := q
    by_cases hl : xs.length = n
    · rw [if_pos hl] at q; exact h _ _ _ _ _ _ q
    · rw [if_neg hl] at q; exact nomatch q
  | _ => exact nomatch q

/-! ### what is walked -/
inductive Src where
  | items (xs : List U)
  | live (n : Nat) (nth : Nat → Gp → Option (Option U))
def Src.at_ (s : Src) (i : Nat) (G : Gp) : Option (Option U) := match s with
  | .items xs => some xs[i]?
  | .live _ nth => nth i G
def Src.fuel (s : Src) : Nat := match s with
  | .items xs => xs.length + 1
  | .live n _ => n
/-- the iterator J, made at ρ0, H0, gives what the source tells -/
def Wk (K : KZ) (ρ0 : List Addr) (H0 : Hp) (src : Src) (J : It) : Prop := ∀ ρ H G i, ρ0 <+: ρ → Stb K H0 H → Sim K ρ G H → match src.at_ i G with
  | none => True
  | some none => J.stop i H
  | some (some u) => J.go i H ∧ ∀ x H', J.yld i H x H' → Stb K H H' ∧ Sim K ρ G H' ∧ RU K ρ H' u x
def tiF (K : KZ) (W : WX) (f : Ev → Gp → R Src) : TI := fun σ H Rr => ∃ ρ G env, Sim K ρ G H ∧ REq K ρ H env σ ∧ match f env G with
  | .ok src G' => ∀ ρ' H' J, ρ <+: ρ' → Stb K H H' → Sim K ρ' G' H' → Wk K ρ' H' src J → Rr J H'
  | .exc c fs G' => ∀ d vfs ρ' H', ρ <+: ρ' → Stb K H H' → Sim K ρ' G' H' → H' d = some (.xd vfs) → RFs K ρ' H' fs vfs → W (.ref (He.ga K.K c)) (some d) σ H'
  | .bad => False
abbrev FI (X : Cx) (Z : ZZ X.K) (W : WX) (tg e : Expr) (f : Ev → Gp → R Src) : Prop := PI X tg e (tiF (kz X Z) W f)
theorem PIimp {X : Cx} {tg e : Expr} {t t' : TI} (h : PI X tg e t) (i : ∀ σ H Q, t' σ H Q → t σ H Q) : PI X tg e t' := ⟨fun pins s σ H Q I q => h.run pins s σ H Q I (i σ H Q q)⟩

/-! sources made of values: k tells the source, the heap as it was -/
def iOf (f : Ev → Gp → R U) (k : U → Gp → Option Src) : Ev → Gp → R Src := fun env G => (f env G).bind fun u G1 => match k u G1 with
  | some src => .ok src G1
  | none => .bad
theorem iStep {K : KZ} {W : WX} {f : Ev → Gp → R U} {k : U → Gp → Option Src} {σ : St} {H : Hp} {Q : It → Hp → Prop} (h : tiF K W (iOf f k) σ H Q) :
    tF K W f σ H fun v H1 => ∃ ρ1 G1 u src, Sim K ρ1 G1 H1 ∧ RU K ρ1 H1 u v ∧ k u G1 = some src ∧ ∀ J, Wk K ρ1 H1 src J → Q J H1 := by
  obtain ⟨ρ, G, env, S, e, h⟩ := h
  refine ⟨ρ, G, env, S, e, ?_⟩
  unfold iOf at h
  cases q : f env G with
  | ok u G1 =>
    rw [q] at h
    intro v ρ1 H1 p s S1 r
    have h : (match (match k u G1 with
      | some src => R.ok src G1
      | none => R.bad : R Src) with
      | .ok src G' => ∀ ρ' H' J, ρ <+: ρ' → Stb K H H' → Sim K ρ' G' H' → Wk K ρ' H' src J → Q J H'
      | .exc c fs G' => ∀ d vfs ρ' H', ρ <+: ρ' → Stb K H H' → Sim K ρ' G' H' → H' d = some (.xd vfs) → RFs K ρ' H' fs vfs → W (.ref (He.ga K.K c)) (some d) σ H'
      | .bad => False) := h
    cases qk : k u G1 with
    | none => rw [qk] at h; exact h.elim
    | some src => rw [qk] at h; exact ⟨ρ1, G1, u, src, S1, r, qk, fun J w => h ρ1 H1 J p s S1 w⟩
  | exc c fs G1 => rw [q] at h; exact fun d vfs ρ' H' p s S' e1 e2 => h d vfs ρ' H' p s S' e1 e2
  | bad => rw [q] at h; exact h
/-- a list, a tuple as it stands -/
def kSeq (u : U) (G : Gp) : Option Src := match u with
  | .tup xs => some (.items xs)
  | .rl xs => some (.items xs)
  | .ref l => match G[l]? with
    | some (.lst xs) => some (.live (xs.length + 1) fun i G => match G[l]? with
      | some (.lst ys) => some ys[i]?
      | _ => none)
    | _ => none
  | _ => none
theorem Sim.list {K : KZ} {ρ : List Addr} {G : Gp} {H : Hp} (S : Sim K ρ G H) {l : Nat} {a : Addr} {xs : List U} (ha : ρ[l]? = some a) (hl : G[l]? = some (.lst xs)) : ∃ vs, H a = some (.lst vs) ∧ RUs K ρ H xs vs := by
  obtain ⟨ho, e, r⟩ := S.ob l _ a hl ha
  cases ho <;> first | exact r.elim | exact ⟨_, e, r⟩
theorem wk_tup {K : KZ} {ρ : List Addr} {H : Hp} {xs : List U} {vs : List V} {a : Addr} (h : TupAt K H a vs) (r : RUs K ρ H xs vs) : Wk K ρ H (.items xs) (Itt K.K a) := by
  intro ρ' H' G i p s S
  show match some xs[i]? with
    | none => True
    | some none => (Itt K.K a).stop i H'
    | some (some u) => (Itt K.K a).go i H' ∧ ∀ x H'', (Itt K.K a).yld i H' x H'' → Stb K H' H'' ∧ Sim K ρ' G H'' ∧ RU K ρ' H'' u x
  have h' := (s.tupAt h).sq
  cases q : xs[i]? with
  | none => exact ⟨vs, h', by rw [← r.len]; exact List.getElem?_eq_none_iff.mp q⟩
  | some u =>
    obtain ⟨v, e, rv⟩ := r.getU q
    refine ⟨⟨vs, v, h', e⟩, fun x H'' y => ?_⟩
    obtain ⟨rfl, y⟩ := y
    have := y vs h'
    rw [e] at this; cases this
    exact ⟨Stb.refl, S, rv.mono p s⟩
theorem wk_rl {K : KZ} {ρ : List Addr} {H : Hp} {xs : List U} {vs : List V} {a : Addr} (h : RLs K H a vs) (r : RUs K ρ H xs vs) : Wk K ρ H (.items xs) (Itl K.K a) := by
  intro ρ' H' G i p s S
  show match some xs[i]? with
    | none => True
    | some none => (Itl K.K a).stop i H'
    | some (some u) => (Itl K.K a).go i H' ∧ ∀ x H'', (Itl K.K a).yld i H' x H'' → Stb K H' H'' ∧ Sim K ρ' G H'' ∧ RU K ρ' H'' u x
  have h' := (s.rls h).sq
  cases q : xs[i]? with
  | none => exact ⟨vs, h', by rw [← r.len]; exact List.getElem?_eq_none_iff.mp q⟩
  | some u =>
    obtain ⟨v, e, rv⟩ := r.getU q
    refine ⟨⟨vs, v, h', e⟩, fun x H'' y => ?_⟩
    obtain ⟨rfl, y⟩ := y
    have := y vs h'
    rw [e] at this; cases this
    exact ⟨Stb.refl, S, rv.mono p s⟩
theorem wk_live {K : KZ} {ρ : List Addr} {H : Hp} {l : Nat} {a : Addr} {n : Nat} (ha : ρ[l]? = some a) : Wk K ρ H (.live n fun i G => match G[l]? with
      | some (.lst ys) => some ys[i]?
      | _ => none) (Itl K.K a) := by
  intro ρ' H' G i p s S
  show match (match G[l]? with
      | some (.lst ys) => some ys[i]?
      | _ => none : Option (Option U)) with
    | none => True
    | some none => (Itl K.K a).stop i H'
    | some (some u) => (Itl K.K a).go i H' ∧ ∀ x H'', (Itl K.K a).yld i H' x H'' → Stb K H' H'' ∧ Sim K ρ' G H'' ∧ RU K ρ' H'' u x
  cases q : G[l]? with
  | none => trivial
  | some o =>
    cases o with
    | lst ys =>
      obtain ⟨vs, e, r⟩ := S.list (pre_get p ha) q
      show match some ys[i]? with
        | none => True
        | some none => (Itl K.K a).stop i H'
        | some (some u) => (Itl K.K a).go i H' ∧ ∀ x H'', (Itl K.K a).yld i H' x H'' → Stb K H' H'' ∧ Sim K ρ' G H'' ∧ RU K ρ' H'' u x
      cases q2 : ys[i]? with
      | none => exact ⟨vs, SqL.of e, by rw [← r.len]; exact List.getElem?_eq_none_iff.mp q2⟩
      | some u =>
        obtain ⟨v, e2, rv⟩ := r.getU q2
        refine ⟨⟨vs, v, SqL.of e, e2⟩, fun x H'' y => ?_⟩
        obtain ⟨rfl, y⟩ := y
        have := y vs (SqL.of e)
        rw [e2] at this; cases this
        exact ⟨Stb.refl, S, rv⟩
    | _ => trivial
section
variable {X : Cx} {Z : ZZ X.K} {W : WX} {tg e : Expr} {f : Ev → Gp → R U} {pos : Pos}
/-- both iterables at once: a list or a tuple -/
def iSeqA (K : PySem.W.Frag) (t : TE) : TI := fun σ H Q => t σ H fun x H1 => ∃ a, x = .ref a ∧ (((∃ xs, SqL K H1 a xs) ∧ Q (Itl K a) H1) ∨ ((∃ xs, SqT K H1 a xs) ∧ Q (Itt K a) H1))
theorem pi_seqA {t : TE} (he : PE X e t) : PI X tg e (iSeqA X.K t) := by
  refine ⟨fun pins s σ H Rr I h => ?_⟩
  refine thn (he.run pins s σ H _ I h) fun v s1 ⟨x, H1, I1, r1, q1⟩ => ?_
  obtain ⟨a, rfl, q1⟩ := q1
  cases r1
  rcases q1 with ⟨⟨xs, hq⟩, q⟩ | ⟨⟨xs, hq⟩, q⟩
  · obtain ⟨its, rv, p, hz⟩ := I1.list hq
    refine wpAny_pyIter_list p.isList ?_
    refine ⟨s1.heap.objs.size, [s1.heap.objs.size], _, _, H1, rfl, I1.kept (t' := s1.toks) fun b o e => Heap.get?_push_of_some _ e, turn_list a _, ⟨_, Heap.get?_push_size _ rfl, rfl, rfl⟩, fun b hb => ?_, q⟩
    have e : b = s1.heap.objs.size := by simpa using hb
    subst e
    exact I1.fpOk (Nat.le_refl _) (I1.hok.fresh (Nat.le_refl _))
  · obtain ⟨its, rv, p, hz⟩ := I1.tuple hq
    refine wpAny_pyIter_tuple (show s1.heap.IsTuple a its.toArray from p) ?_
    refine ⟨s1.heap.objs.size, [s1.heap.objs.size], _, _, H1, rfl, I1.kept (t' := s1.toks) fun b o e => Heap.get?_push_of_some _ e, turn_tuple a _, ⟨_, Heap.get?_push_size _ rfl, rfl, rfl⟩, fun b hb => ?_, q⟩
    have e : b = s1.heap.objs.size := by simpa using hb
    subst e
    exact I1.fpOk (Nat.le_refl _) (I1.hok.fresh (Nat.le_refl _))
theorem fiseq (he : FE X Z W e f) : FI X Z W tg e (iOf f kSeq) := by
  refine PIimp (pi_seqA he) fun σ H Q h => ?_
  refine tG_mono (iStep h) fun v H1 ⟨ρ1, G1, u, src, S1, r1, hk, q⟩ => ?_
  cases r1 with
  | tup ht hr => cases hk; exact ⟨_, rfl, .inr ⟨⟨_, ht.sq⟩, q _ (wk_tup ht hr)⟩⟩
  | rl ht hr => cases hk; exact ⟨_, rfl, .inl ⟨⟨_, ht.sq⟩, q _ (wk_rl ht hr)⟩⟩
  | @ref l a ha =>
    unfold kSeq at hk
    simp only at hk
    cases q2 : G1[l]? with
    | none => rw [q2] at hk; exact nomatch hk
    | some o =>
      rw [q2] at hk
      cases o with
      | lst xs =>
        cases hk
        obtain ⟨vs, e, r⟩ := S1.list ha q2
        exact ⟨_, rfl, .inl ⟨⟨_, SqL.of e⟩, q _ (wk_live ha)⟩⟩
      | _ => exact nomatch hk
  | _ => exact nomatch hk
/-! ranges -/
def kRng1 (us : List U) (G : Gp) : Option Src := match us with
  | [.int j] => if -(2 ^ 62) ≤ j ∧ j < 2 ^ 62 then some (.live (j.toNat + 1) fun i _ => some (if i < j.toNat then some (.int (0 + (i : Nat))) else none)) else none
  | _ => none
def kRng2 (us : List U) (G : Gp) : Option Src := match us with
  | [.int i0, .int j] => if -(2 ^ 62) ≤ i0 ∧ i0 < 2 ^ 62 ∧ -(2 ^ 62) ≤ j ∧ j < 2 ^ 62 then some (.live ((j - i0).toNat + 1) fun i _ => some (if i < (j - i0).toNat then some (.int (i0 + (i : Nat))) else none)) else none
  | _ => none
def iOfs (f : Ev → Gp → R (List U)) (k : List U → Gp → Option Src) : Ev → Gp → R Src := fun env G => (f env G).bind fun us G1 => match k us G1 with
  | some src => .ok src G1
  | none => .bad
theorem iSteps {K : KZ} {W : WX} {f : Ev → Gp → R (List U)} {k : List U → Gp → Option Src} {σ : St} {H : Hp} {Q : It → Hp → Prop} (h : tiF K W (iOfs f k) σ H Q) :
    taF K W f σ H fun vs H1 => ∃ ρ1 G1 us src, Sim K ρ1 G1 H1 ∧ RUs K ρ1 H1 us vs ∧ k us G1 = some src ∧ ∀ J, Wk K ρ1 H1 src J → Q J H1 := by
  obtain ⟨ρ, G, env, S, e, h⟩ := h
  refine ⟨ρ, G, env, S, e, ?_⟩
  unfold iOfs at h
  cases q : f env G with
  | ok u G1 =>
    rw [q] at h
    intro v ρ1 H1 p s S1 r
    have h : (match (match k u G1 with
      | some src => R.ok src G1
      | none => R.bad : R Src) with
      | .ok src G' => ∀ ρ' H' J, ρ <+: ρ' → Stb K H H' → Sim K ρ' G' H' → Wk K ρ' H' src J → Q J H'
      | .exc c fs G' => ∀ d vfs ρ' H', ρ <+: ρ' → Stb K H H' → Sim K ρ' G' H' → H' d = some (.xd vfs) → RFs K ρ' H' fs vfs → W (.ref (He.ga K.K c)) (some d) σ H'
      | .bad => False) := h
    cases qk : k u G1 with
    | none => rw [qk] at h; exact h.elim
    | some src => rw [qk] at h; exact ⟨ρ1, G1, u, src, S1, r, qk, fun J w => h ρ1 H1 J p s S1 w⟩
  | exc c fs G1 => rw [q] at h; exact fun d vfs ρ' H' p s S' e1 e2 => h d vfs ρ' H' p s S' e1 e2
  | bad => rw [q] at h; exact h
theorem wk_rng {K : KZ} {ρ : List Addr} {H : Hp} {lo : Int} {n m : Nat} : Wk K ρ H (.live m fun i _ => some (if i < n then some (.int (lo + (i : Nat))) else none)) (Itr lo n) := by
  intro ρ' H' G i p s S
  show match some (if i < n then some (U.int (lo + (i : Nat))) else none) with
    | none => True
    | some none => (Itr lo n).stop i H'
    | some (some u) => (Itr lo n).go i H' ∧ ∀ x H'', (Itr lo n).yld i H' x H'' → Stb K H' H'' ∧ Sim K ρ' G H'' ∧ RU K ρ' H'' u x
  by_cases hi : i < n
  · rw [if_pos hi]
    refine ⟨hi, fun x H'' y => ?_⟩
    obtain ⟨rfl, rfl⟩ := y
    exact ⟨Stb.refl, S, .int _⟩
  · rw [if_neg hi]; exact Nat.le_of_not_lt hi
theorem RUs.one {K : KZ} {ρ : List Addr} {H : Hp} {x : U} {vs : List V} (r : RUs K ρ H [x] vs) : ∃ v, vs = [v] ∧ RU K ρ H x v := by
  cases r with
  | cons h t => cases t; exact ⟨_, rfl, h⟩
theorem RUs.two {K : KZ} {ρ : List Addr} {H : Hp} {x y : U} {vs : List V} (r : RUs K ρ H [x, y] vs) : ∃ v w, vs = [v, w] ∧ RU K ρ H x v ∧ RU K ρ H y w := by
  cases r with
  | cons h t => obtain ⟨w, rfl, h2⟩ := t.one; exact ⟨_, _, rfl, h, h2⟩
theorem fir1 {a : Expr} {fa : Ev → Gp → R (List U)} {p : Pos} (hg : Gl X "range") (hm : X.mg "range" = none) (ha : FA X Z W [a] fa) (hs : starEach [a] X.env = [(false, eval a X.env)] := by rfl) : FI X Z W tg (.Call (.Name "range" p) [a] [] pos) (iOfs fa kRng1) := by
  refine PIimp (pi_range1 hg hm ha hs) fun σ H Q h => ?_
  refine tG_mono (iSteps h) fun vs H1 ⟨ρ1, G1, us, src, S1, r1, hk, q⟩ => ?_
  unfold kRng1 at hk
  split at hk
  · rename_i j
    split at hk
    · rename_i hj
      cases hk
      obtain ⟨v, rfl, rv⟩ := r1.one
      cases rv
      exact ⟨j, rfl, hj.1, hj.2, q _ wk_rng⟩
    · exact nomatch hk
  · exact nomatch hk
theorem fir2 {a b : Expr} {fa : Ev → Gp → R (List U)} {p : Pos} (hg : Gl X "range") (hm : X.mg "range" = none) (ha : FA X Z W [a, b] fa) (hs : starEach [a, b] X.env = [(false, eval a X.env), (false, eval b X.env)] := by rfl) (hs2 : starEach [b] X.env = [(false, eval b X.env)] := by rfl) :
    FI X Z W tg (.Call (.Name "range" p) [a, b] [] pos) (iOfs fa kRng2) := by
  refine PIimp (pi_range2 hg hm ha hs hs2) fun σ H Q h => ?_
  refine tG_mono (iSteps h) fun vs H1 ⟨ρ1, G1, us, src, S1, r1, hk, q⟩ => ?_
  unfold kRng2 at hk
  split at hk
  · rename_i i j
    split at hk
    · rename_i hj
      cases hk
      obtain ⟨v, w, rfl, rv, rw'⟩ := r1.two
      cases rv
      cases rw'
      exact ⟨i, j, rfl, hj, q _ wk_rng⟩
    · exact nomatch hk
  · exact nomatch hk
end

/-! ### for, while -/
def forN (nth : Nat → Gp → Option (Option U)) (gf : U → Ev → Gp → R Ev) (body : Ev → Gp → SR) : Nat → Nat → Ev → Gp → SR
  | 0, _, _, _ => .bad
  | n + 1, i, env, G => match nth i G with
    | none => .bad
    | some none => .nx env G
    | some (some u) => (gf u env G).andThen env fun env1 G1 => match body env1 G1 with
      | .nx env' G' => forN nth gf body n (i + 1) env' G'
      | .ct env' G' => forN nth gf body n (i + 1) env' G'
      | .brk env' G' => .nx env' G'
      | r => r
/-- over written items -/
def forL (gf : U → Ev → Gp → R Ev) (body : Ev → Gp → SR) : List U → Ev → Gp → SR
  | [], env, G => .nx env G
  | u :: us, env, G => (gf u env G).andThen env fun env1 G1 => match body env1 G1 with
    | .nx env' G' => forL gf body us env' G'
    | .ct env' G' => forL gf body us env' G'
    | .brk env' G' => .nx env' G'
    | r => r
def sFor (fi : Ev → Gp → R Src) (gf : U → Ev → Gp → R Ev) (body : Ev → Gp → SR) : Ev → Gp → SR := fun env G => (fi env G).andThen env fun src G1 => match src with
  | .items xs => forL gf body xs env G1
  | .live n nth => forN nth gf body n 0 env G1
theorem forL_drop {gf : U → Ev → Gp → R Ev} {body : Ev → Gp → SR} {xs : List U} : ∀ (m i : Nat) (env : Ev) (G : Gp), m = xs.length + 1 - i → i ≤ xs.length → forN (fun i _ => some xs[i]?) gf body m i env G = forL gf body (xs.drop i) env G := by
  intro m
  induction m with
  | zero => intro i env G h1 h2; omega
  | succ m ih =>
    intro i env G h1 h2
    by_cases hi : i < xs.length
    · have e : xs.drop i = xs[i] :: xs.drop (i + 1) := List.drop_eq_getElem_cons hi
      rw [e]
      show (match some xs[i]? with
        | none => SR.bad
        | some none => .nx env G
        | some (some u) => _) = _
      rw [List.getElem?_eq_getElem hi]
      show (gf xs[i] env G).andThen env _ = (gf xs[i] env G).andThen env _
      congr 1
      funext env1 G1
      cases q : body env1 G1 with
      | nx env' G' => exact ih (i + 1) env' G' (by omega) hi
      | ct env' G' => exact ih (i + 1) env' G' (by omega) hi
      | _ => rfl
    · have e : i = xs.length := by omega
      subst e
      rw [List.drop_length]
      show (match some xs[xs.length]? with
        | none => SR.bad
        | some none => .nx env G
        | some (some u) => _) = _
      rw [List.getElem?_eq_none (Nat.le_refl _)]
      rfl
def Src.nth (s : Src) : Nat → Gp → Option (Option U) := fun i G => s.at_ i G
theorem sFor_run {src : Src} {gf : U → Ev → Gp → R Ev} {body : Ev → Gp → SR} {env : Ev} {G1 : Gp} : (match src with
  | .items xs => forL gf body xs env G1
  | .live n nth => forN nth gf body n 0 env G1) = forN src.nth gf body src.fuel 0 env G1 := by
  cases src with
  | items xs =>
    show forL gf body xs env G1 = forN (fun i _ => some xs[i]?) gf body (xs.length + 1) 0 env G1
    rw [forL_drop (xs.length + 1) 0 env G1 (by omega) (Nat.zero_le _)]
    rfl
  | live n nth => rfl
section
variable {X : Cx} {Z : ZZ X.K} {W : WX} {tg e c : Expr} {body : List Stmt} {fi : Ev → Gp → R Src} {gf : U → Ev → Gp → R Ev} {g : Ev → Gp → SR} {fc : Ev → Gp → R Bool} {pos : Pos}
theorem fsfor (hp : PassesOwn (model X.prog X.w) X.A X.env X.xe) (hc : X.calm = true) (hi : FI X Z W tg e fi) (hg : FG X Z tg gf) (nx : NoX gf) (hb : FSs X Z W body g) (hs : ∀ x, foldedSetIterable e X.env x = pure x := by intro _; rfl) :
    FS X Z W (.For tg e body [] pos) (sFor fi gf g) := by
  refine PSimp (ps_for hp hc hi hg hb hs) fun D σ H ⟨ρ, G, env, S, e, h⟩ => ?_
  refine ⟨ρ, G, env, S, e, ?_⟩
  unfold sFor at h
  cases q : fi env G with
  | bad => rw [q] at h; exact h
  | exc c fs G1 => rw [q] at h; exact fun d vfs ρ' H' p s S' e1 e2 => h σ d vfs ρ' H' p s S' (e.mono p s) e1 e2
  | ok src G1 =>
    rw [q] at h
    have h : PostS (kz X Z) ρ H (forN src.nth gf g src.fuel 0 env G1) D W := by rw [← sFor_run]; exact h
    intro ρ1 H1 J p1 s1 S1 wk
    refine ⟨fun i m σ H => ∃ ρ2 G2 env2, ρ1 <+: ρ2 ∧ Stb (kz X Z) H1 H ∧ Sim (kz X Z) ρ2 G2 H ∧ REq (kz X Z) ρ2 H env2 σ ∧ PostS (kz X Z) ρ2 H (forN src.nth gf g m i env2 G2) D W, ⟨src.fuel, ρ1, G1, env, pre_refl, Stb.refl, S1, e.mono p1 s1, h.lift p1 s1⟩, ?_⟩
    rintro i m σ2 H2 ⟨ρ2, G2, env2, p2, s2, S2, e2, h2⟩
    cases m with
    | zero => exact h2.elim
    | succ m =>
      have w := wk ρ2 H2 G2 i p2 s2 S2
      unfold forN at h2
      have en : src.nth i G2 = src.at_ i G2 := rfl
      rw [en] at h2
      cases qn : src.at_ i G2 with
      | none => rw [qn] at h2; exact h2.elim
      | some o =>
        rw [qn] at h2 w
        cases o with
        | none => exact .inl ⟨w, h2.nx_ S2 e2⟩
        | some u =>
          refine .inr ⟨w.1, fun σ' H' => ∃ ρ3 G3 env3, ρ1 <+: ρ3 ∧ Stb (kz X Z) H1 H' ∧ Sim (kz X Z) ρ3 G3 H' ∧ REq (kz X Z) ρ3 H' env3 σ' ∧ PostS (kz X Z) ρ3 H' (forN src.nth gf g m (i + 1) env3 G3) D W, fun σ' H' z => ⟨m, Nat.lt_succ_self m, z⟩, fun x H3 y => ?_⟩
          obtain ⟨s3, S3, rx⟩ := w.2 x H3 y
          have h3 := h2.lift pre_refl s3
          refine ⟨ρ2, G2, env2, u, S3, e2.mono pre_refl s3, rx, ?_⟩
          have h3 : PostS (kz X Z) ρ2 H3 ((gf u env2 G2).andThen env2 fun env1 G1 => match g env1 G1 with
            | .nx env' G' => forN src.nth gf g m (i + 1) env' G'
            | .ct env' G' => forN src.nth gf g m (i + 1) env' G'
            | .brk env' G' => .nx env' G'
            | r => r) D W := h3
          cases qg : gf u env2 G2 with
          | bad => rw [qg] at h3; exact h3
          | exc c fs G' => exact absurd qg (nx u env2 G2 c fs G')
          | ok env3 G3 =>
            rw [qg] at h3
            intro σ4 ρ4 H4 p4 s4 S4 e4
            refine ⟨ρ4, G3, env3, S4, e4, ?_⟩
            have h4 : PostS (kz X Z) ρ4 H4 (match g env3 G3 with
              | .nx env' G' => forN src.nth gf g m (i + 1) env' G'
              | .ct env' G' => forN src.nth gf g m (i + 1) env' G'
              | .brk env' G' => .nx env' G'
              | r => r) D W := h3.lift p4 s4
            have pp : ρ1 <+: ρ4 := p2.trans p4
            have ss : Stb (kz X Z) H1 H4 := (s2.trans s3).trans s4
            cases qb : g env3 G3 with
            | nx env' G' => rw [qb] at h4; exact fun σ' ρ' H' p s S' e' => ⟨ρ', G', env', pp.trans p, ss.trans s, S', e', h4.lift p s⟩
            | ct env' G' => rw [qb] at h4; exact fun σ' ρ' H' p s S' e' => ⟨ρ', G', env', pp.trans p, ss.trans s, S', e', h4.lift p s⟩
            | brk env' G' => rw [qb] at h4; exact fun σ' ρ' H' p s S' e' => h4 σ' ρ' H' p s S' e'
            | ret u G' => rw [qb] at h4; exact h4
            | exc c fs env' G' => rw [qb] at h4; exact h4
            | bad => rw [qb] at h4; exact h4
end
/-- while: n bounds the turns -/
def whileN (fc : Ev → Gp → R Bool) (body : Ev → Gp → SR) : Nat → Ev → Gp → SR
  | 0, _, _ => .bad
  | n + 1, env, G => (fc env G).andThen env fun b G1 => if b = true then (match body env G1 with
      | .nx env' G' => whileN fc body n env' G'
      | .ct env' G' => whileN fc body n env' G'
      | .brk env' G' => .nx env' G'
      | r => r) else .nx env G1
section
variable {X : Cx} {Z : ZZ X.K} {W : WX} {c : Expr} {body : List Stmt} {g : Ev → Gp → SR} {fc : Ev → Gp → R Bool} {pos : Pos}
theorem fswhile (n : Nat) (hp : PassesOwn (model X.prog X.w) X.A X.env X.xe) (hc : FT X Z W c fc) (hb : FSs X Z W body g) : FS X Z W (.While c body [] pos) (whileN fc g n) := by
  refine PSimp (ps_while hp hc hb) fun D σ H ⟨ρ, G, env, S, e, h⟩ => ?_
  refine ⟨fun m σ' H' => ∃ ρ2 G2 env2, ρ <+: ρ2 ∧ Stb (kz X Z) H H' ∧ Sim (kz X Z) ρ2 G2 H' ∧ REq (kz X Z) ρ2 H' env2 σ' ∧ PostS (kz X Z) ρ2 H' (whileN fc g m env2 G2) D W, ⟨n, ρ, G, env, pre_refl, Stb.refl, S, e, h⟩, ?_⟩
  rintro m σ2 H2 ⟨ρ2, G2, env2, p2, s2, S2, e2, h2⟩
  cases m with
  | zero => exact h2.elim
  | succ m =>
    unfold whileN at h2
    refine tG_mono (stepS (rel := fun _ _ a b => a = b) S2 e2 h2) fun b H3 ⟨ρ3, G3, x, p3, s3, S3, e3, r3, h3⟩ => ?_
    subst r3
    cases x with
    | false => exact h3.nx_ S3 e3
    | true =>
      rw [if_pos rfl]
      have h3 : PostS (kz X Z) ρ3 H3 (match g env2 G3 with
        | .nx env' G' => whileN fc g m env' G'
        | .ct env' G' => whileN fc g m env' G'
        | .brk env' G' => .nx env' G'
        | r => r) D W := h3
      refine ⟨fun σ' H' => ∃ ρ4 G4 env4, ρ <+: ρ4 ∧ Stb (kz X Z) H H' ∧ Sim (kz X Z) ρ4 G4 H' ∧ REq (kz X Z) ρ4 H' env4 σ' ∧ PostS (kz X Z) ρ4 H' (whileN fc g m env4 G4) D W, fun σ' H' z => ⟨m, Nat.lt_succ_self m, z⟩, ρ3, G3, env2, S3, e3, ?_⟩
      have pp : ρ <+: ρ3 := p2.trans p3
      have ss : Stb (kz X Z) H H3 := s2.trans s3
      cases qb : g env2 G3 with
      | nx env' G' => rw [qb] at h3; exact fun σ' ρ' H' p s S' e' => ⟨ρ', G', env', pp.trans p, ss.trans s, S', e', h3.lift p s⟩
      | ct env' G' => rw [qb] at h3; exact fun σ' ρ' H' p s S' e' => ⟨ρ', G', env', pp.trans p, ss.trans s, S', e', h3.lift p s⟩
      | brk env' G' => rw [qb] at h3; exact fun σ' ρ' H' p s S' e' => h3 σ' ρ' H' p s S' e'
      | ret u G' => rw [qb] at h3; exact h3
      | exc c fs env' G' => rw [qb] at h3; exact h3
      | bad => rw [qb] at h3; exact h3
end
end FL

set_option Elab.async false
set_option linter.all false
set_option maxRecDepth 100000
set_option maxHeartbeats 4000000
set_option autoImplicit false
namespace FL
open PySem PySem.Spec L2

/-! ### ints -/
def mulOk (i j : Int) : Bool := decide (i.natAbs < 2 ^ 64) || decide (j.natAbs < 2 ^ 64) || decide (Builtin.Int.intBits i + Builtin.Int.intBits j ≤ 134217728)
def gAdd (x y : U) (G : Gp) : R U := match x, y with
  | .int i, .int j => .ok (.int (i + j)) G
  | .str a, .str b => if a.length + b.length ≤ 16777216 then .ok (.str (a ++ b)) G else .bad
  | .tup a, .tup b => if a.length + b.length ≤ 16777216 then .ok (.tup (a ++ b)) G else .bad
  | .ref l, .ref m => match G[l]?, G[m]? with
    | some (.lst a), some (.lst b) => if a.length + b.length ≤ 16777216 then .ok (.ref G.length) (G ++ [.lst (a ++ b)]) else .bad
    | _, _ => .bad
  | _, _ => .bad
def gSub (x y : U) (G : Gp) : R U := match x, y with
  | .int i, .int j => .ok (.int (i - j)) G
  | _, _ => .bad
def gMul (x y : U) (G : Gp) : R U := match x, y with
  | .int i, .int j => if mulOk i j = true then .ok (.int (i * j)) G else .bad
  | .ref l, .int k => match G[l]? with
    | some (.lst a) => if -(2 ^ 63) ≤ k ∧ k < 2 ^ 63 ∧ a.length * k.toNat ≤ 16777216 then .ok (.ref G.length) (G ++ [.lst (List.replicate k.toNat a).flatten]) else .bad
    | _ => .bad
  | _, _ => .bad
def gFdiv (x y : U) (G : Gp) : R U := match x, y with
  | .int i, .int j => if 0 < j ∧ j.natAbs < 2 ^ 1000 then .ok (.int (i / j)) G else .bad
  | _, _ => .bad
def gMod (x y : U) (G : Gp) : R U := match x, y with
  | .int i, .int j => if 0 < j then .ok (.int (i % j)) G else .bad
  | _, _ => .bad
def gPow (x y : U) (G : Gp) : R U := match x, y with
  | .int i, .int j => if 0 ≤ j ∧ j ≤ 1000000 ∧ i.natAbs < 2 ^ 64 then .ok (.int (i ^ j.toNat)) G else .bad
  | _, _ => .bad
def gNeg (x : U) (G : Gp) : R U := match x with
  | .int i => .ok (.int (-i)) G
  | _ => .bad
section
variable {K : KZ}
theorem natAbs_64 {i : Int} (h : i.natAbs < 2 ^ 64) : -(2 ^ 64) < i ∧ i < 2 ^ 64 := by
  have e : (2 : Nat) ^ 64 = 18446744073709551616 := by decide
  have e2 : (2 : Int) ^ 64 = 18446744073709551616 := by decide
  rw [e] at h
  rw [e2]
  omega
def rAddA (K : PySem.W.Frag) : R2 := fun x y H Q => (((rI0 fun i j => .int (i + j)) x y H Q ∨ (∃ i j, x = .str i ∧ y = .str j ∧ i.length + j.length ≤ sizeLine ∧ Q (.str (i ++ j)) H)) ∨ rCatA K x y H Q) ∨ rCat x y H Q
theorem orAdd {X : Cx} : OpR X (binaryOp .Add) (rAddA X.K) := ((op_add.or op_add_str).or op_catA).or op_cat
theorem o2Add : Op2 K (rAddA K.K) gAdd := by
  intro ρ G H x y v w Q E S rx ry h
  cases rx with
  | int i =>
    cases ry with
    | int j => exact .inl (.inl (.inl ⟨i, j, rfl, rfl, h.end_ S (.int _)⟩))
    | _ => exact h.elim
  | str a =>
    cases ry with
    | str b =>
      unfold gAdd at h
      simp only at h
      by_cases hl : a.length + b.length ≤ 16777216
      · rw [if_pos hl] at h
        exact .inl (.inl (.inr ⟨a, b, rfl, rfl, by rw [line_eq]; exact hl, h.end_ S (.str _)⟩))
      · rw [if_neg hl] at h; exact h.elim
    | _ => exact h.elim
  | @tup xs vs p hp hr =>
    cases ry with
    | @tup ys ws q hq hs =>
      unfold gAdd at h
      simp only at h
      by_cases hl : xs.length + ys.length ≤ 16777216
      · rw [if_pos hl] at h
        refine .inl (.inr ⟨p, q, vs, ws, rfl, rfl, hp.sq, hq.sq, by rw [← hr.len, ← hs.len, line_eq]; exact hl, fun e => ?_, fun _ e => ?_, fun _ _ => newTup S (hr.append hs) h⟩)
        · subst e
          cases hr
          exact h.end_ S (.tup hq hs)
        · subst e
          cases hs
          rw [List.append_nil] at h
          exact h.end_ S (.tup hp hr)
      · rw [if_neg hl] at h; exact h.elim
    | _ => exact h.elim
  | @ref l p hp =>
    cases ry with
    | @ref m q hq =>
      unfold gAdd at h
      simp only at h
      cases e1 : G[l]? with
      | none => simp only [e1] at h; exact h.elim
      | some o1 =>
        cases e2 : G[m]? with
        | none => simp only [e1, e2] at h; cases o1 <;> exact h.elim
        | some o2 =>
          simp only [e1, e2] at h
          cases o1 with
          | lst a =>
            cases o2 with
            | lst b =>
              simp only at h
              by_cases hl : a.length + b.length ≤ 16777216
              · rw [if_pos hl] at h
                obtain ⟨vs, h1, r1⟩ := S.list hp e1
                obtain ⟨ws, h2, r2⟩ := S.list hq e2
                exact .inr ⟨p, q, vs, ws, rfl, rfl, h1, h2, by rw [← r1.len, ← r2.len, line_eq]; exact hl, newLst S (r1.append r2) h⟩
              · rw [if_neg hl] at h; exact h.elim
            | _ => exact h.elim
          | _ => exact h.elim
    | _ => exact h.elim
  | _ => exact h.elim
theorem o2Sub : Op2 K (rI0 fun i j => .int (i - j)) gSub := by
  intro ρ G H x y v w Q E S rx ry h
  cases rx with
  | int i =>
    cases ry with
    | int j => exact ⟨i, j, rfl, rfl, h.end_ S (.int _)⟩
    | _ => exact h.elim
  | _ => exact h.elim
def rMulA : R2 := fun x y H Q => (rI CMul (fun i j => .int (i * j)) x y H Q ∨ rI CMulX (fun i j => .int (i * j)) x y H Q) ∨ rRep x y H Q
theorem orMul {X : Cx} : OpR X (binaryOp .Mult) rMulA := (op_mul.or op_mulX).or op_rep
theorem flatten_rel {ρ : List Addr} {H : Hp} {a : List U} {vs : List V} (r : RUs K ρ H a vs) : ∀ n : Nat, RUs K ρ H (List.replicate n a).flatten (List.replicate n vs).flatten
  | 0 => .nil
  | n + 1 => by
    rw [List.replicate_succ, List.replicate_succ, List.flatten_cons, List.flatten_cons]
    exact r.append (flatten_rel r n)
theorem o2Mul : Op2 K rMulA gMul := by
  intro ρ G H x y v w Q E S rx ry h
  cases rx with
  | int i =>
    cases ry with
    | int j =>
      unfold gMul at h
      simp only at h
      by_cases hm : mulOk i j = true
      · rw [if_pos hm] at h
        have q := h.end_ S (.int _)
        unfold mulOk at hm
        rw [Bool.or_eq_true, Bool.or_eq_true] at hm
        rcases hm with (hm | hm) | hm
        · exact .inl (.inl ⟨i, j, rfl, rfl, .inl (natAbs_64 (of_decide_eq_true hm)), q⟩)
        · exact .inl (.inl ⟨i, j, rfl, rfl, .inr (natAbs_64 (of_decide_eq_true hm)), q⟩)
        · exact .inl (.inr ⟨i, j, rfl, rfl, by have := of_decide_eq_true hm; unfold CMulX; omega, q⟩)
      · rw [if_neg hm] at h; exact h.elim
    | _ => exact h.elim
  | @ref l p hp =>
    cases ry with
    | int k =>
      unfold gMul at h
      simp only at h
      cases e1 : G[l]? with
      | none => simp only [e1] at h; exact h.elim
      | some o1 =>
        simp only [e1] at h
        cases o1 with
        | lst a =>
          simp only at h
          by_cases hk : -(2 ^ 63) ≤ k ∧ k < 2 ^ 63 ∧ a.length * k.toNat ≤ 16777216
          · rw [if_pos hk] at h
            obtain ⟨vs, h1, r1⟩ := S.list hp e1
            exact .inr ⟨p, k, vs, rfl, rfl, h1, hk.1, hk.2.1, by rw [← r1.len, line_eq]; exact hk.2.2, newLst S (flatten_rel r1 _) h⟩
          · rw [if_neg hk] at h; exact h.elim
        | _ => exact h.elim
    | _ => exact h.elim
  | _ => exact h.elim
theorem o2Fdiv : Op2 K (rI CDivW fun i j => .int (i / j)) gFdiv := by
  intro ρ G H x y v w Q E S rx ry h
  cases rx with
  | int i =>
    cases ry with
    | int j =>
      unfold gFdiv at h
      simp only at h
      by_cases hj : 0 < j ∧ j.natAbs < 2 ^ 1000
      · rw [if_pos hj] at h
        exact ⟨i, j, rfl, rfl, wide_div hj.1 hj.2 (by decide) (by decide), h.end_ S (.int _)⟩
      · rw [if_neg hj] at h; exact h.elim
    | _ => exact h.elim
  | _ => exact h.elim
theorem o2Mod : Op2 K (rI (fun _ j => 0 < j) fun i j => .int (i % j)) gMod := by
  intro ρ G H x y v w Q E S rx ry h
  cases rx with
  | int i =>
    cases ry with
    | int j =>
      unfold gMod at h
      simp only at h
      by_cases hj : 0 < j
      · rw [if_pos hj] at h
        exact ⟨i, j, rfl, rfl, hj, h.end_ S (.int _)⟩
      · rw [if_neg hj] at h; exact h.elim
    | _ => exact h.elim
  | _ => exact h.elim
theorem o2Pow : Op2 K (rI CPow fun i j => .int (i ^ j.toNat)) gPow := by
  intro ρ G H x y v w Q E S rx ry h
  cases rx with
  | int i =>
    cases ry with
    | int j =>
      unfold gPow at h
      simp only at h
      by_cases hj : 0 ≤ j ∧ j ≤ 1000000 ∧ i.natAbs < 2 ^ 64
      · rw [if_pos hj] at h
        exact ⟨i, j, rfl, rfl, hj, h.end_ S (.int _)⟩
      · rw [if_neg hj] at h; exact h.elim
    | _ => exact h.elim
  | _ => exact h.elim
theorem o1Neg : Op1 K (rU fun i => .int (-i)) gNeg := by
  intro ρ G H x v Q E S rx h
  cases rx with
  | int i => exact ⟨i, rfl, h.end_ S (.int _)⟩
  | _ => exact h.elim
end
section
variable {X : Cx} {Z : ZZ X.K} {W : WX} {a b : Expr} {fa fb : Ev → Gp → R U} {pos : Pos}
theorem fadd (ha : FE X Z W a fa) (hb : FE X Z W b fb) : FE X Z W (.BinOp a .Add b pos) (eBin gAdd fa fb) := fop o2Add orAdd ha hb
theorem fsub (ha : FE X Z W a fa) (hb : FE X Z W b fb) : FE X Z W (.BinOp a .Sub b pos) (eBin gSub fa fb) := fop o2Sub op_sub ha hb
theorem fmul (ha : FE X Z W a fa) (hb : FE X Z W b fb) : FE X Z W (.BinOp a .Mult b pos) (eBin gMul fa fb) := fop o2Mul orMul ha hb
theorem ffdiv (ha : FE X Z W a fa) (hb : FE X Z W b fb) : FE X Z W (.BinOp a .FloorDiv b pos) (eBin gFdiv fa fb) := fop o2Fdiv op_fdivW ha hb
theorem fmod (ha : FE X Z W a fa) (hb : FE X Z W b fb) : FE X Z W (.BinOp a .Mod b pos) (eBin gMod fa fb) := fop o2Mod op_mod ha hb
theorem fpow (ha : FE X Z W a fa) (hb : FE X Z W b fb) : FE X Z W (.BinOp a .Pow b pos) (eBin gPow fa fb) := fop o2Pow op_pow ha hb
theorem fneg (ha : FE X Z W a fa) : FE X Z W (.UnaryOp .USub a pos) (eUn gNeg fa) := fun1 o1Neg un_neg ha
end

/-! ### comparisons -/
def gCmpI (p : Int → Int → Bool) (x y : U) (G : Gp) : R U := match x, y with
  | .int i, .int j => .ok (.bl (p i j)) G
  | _, _ => .bad
def scalEq : U → U → Option Bool
  | .non, .non => some true | .non, .int _ => some false | .int _, .non => some false | .non, .bl _ => some false | .bl _, .non => some false | .non, .str _ => some false | .str _, .non => some false
  | .int i, .int j => some (decide (i = j)) | .bl i, .bl j => some (decide (i = j)) | .str i, .str j => some (decide (i = j))
  | .int _, .str _ => some false | .str _, .int _ => some false | .bl _, .str _ => some false | .str _, .bl _ => some false
  | _, _ => none
def optAll {α β : Type} (f : α → Option β) : List α → Option (List β)
  | [] => some []
  | x :: xs => match f x, optAll f xs with
    | some y, some ys => some (y :: ys)
    | _, _ => none
def toD (G : Gp) : Nat → U → Option PyData
  | _, .non => some .none
  | _, .bl b => some (.bool b)
  | _, .int i => some (.int i)
  | _, .str x => some (.str x)
  | 0, _ => none
  | n + 1, .tup xs => (optAll (toD G n) xs).map .tuple
  | n + 1, .rl xs => (optAll (toD G n) xs).map .list
  | n + 1, .wt xs => (optAll (toD G n) xs).map .tuple
  | n + 1, .ref l => match G[l]? with
    | some (.lst xs) => (optAll (toD G n) xs).map .list
    | _ => none
def eqU (G : Gp) (x y : U) : Option Bool := match scalEq x y with
  | some b => some b
  | none => match toD G 40 x, toD G 40 y with
    | some d, some e => if SeqAt.shaped d = true ∧ SeqAt.shaped e = true then some (PyData.eqv d e) else none
    | _, _ => none
def gEq (x y : U) (G : Gp) : R U := match eqU G x y with
  | some b => .ok (.bl b) G
  | none => .bad
def gNe (x y : U) (G : Gp) : R U := match eqU G x y with
  | some b => .ok (.bl (!b)) G
  | none => .bad
section
variable {K : KZ} {ρ : List Addr} {G : Gp} {H : Hp}
theorem o2CmpI {p : Int → Int → Bool} : Op2 K (rI0 fun i j => .bl (p i j)) (gCmpI p) := by
  intro ρ G H x y v w Q E S rx ry h
  cases rx with
  | int i =>
    cases ry with
    | int j => exact ⟨i, j, rfl, rfl, h.end_ S (.bl _)⟩
    | _ => exact h.elim
  | _ => exact h.elim
theorem scalEq_ok {x y : U} {v w : V} (rx : RU K ρ H x v) (ry : RU K ρ H y w) {b : Bool} (h : scalEq x y = some b) : scal v w = true ∧ decide (v = w) = b := by
  cases rx <;> cases ry <;> first
    | (cases h; done)
    | (cases h; exact ⟨rfl, rfl⟩)
    | (cases h; refine ⟨rfl, ?_⟩; simp)
theorem optAll_ok {f : U → Option PyData} (hf : ∀ x v d, RU K ρ H x v → f x = some d → Dp K.K H v d) : ∀ {xs : List U} {vs : List V} {ds : List PyData}, RUs K ρ H xs vs → optAll f xs = some ds → DpAll K.K H vs ds
  | _, _, ds, .nil, h => by cases h; exact .nil
  | _, _, ds, .cons (x := x) (xs := xs) hx ht, h => by
    unfold optAll at h
    cases e1 : f x with
    | none => rw [e1] at h; exact nomatch h
    | some y =>
      cases e2 : optAll f xs with
      | none => rw [e1, e2] at h; exact nomatch h
      | some ys => rw [e1, e2] at h; cases h; exact .cons (hf _ _ _ hx e1) (optAll_ok hf ht e2)
theorem toD_ok (S : Sim K ρ G H) : ∀ (n : Nat) (x : U) (v : V) (d : PyData), RU K ρ H x v → toD G n x = some d → Dp K.K H v d := by
  intro n
  induction n with
  | zero =>
    intro x v d r h
    cases r <;> first
      | (cases h; done)
      | (cases h; constructor)
  | succ n ih =>
    intro x v d r h
    cases r with
    | tup hp hr =>
      unfold toD at h
      cases e : optAll (toD G n) _ with
      | none => rw [e] at h; exact nomatch h
      | some ds => rw [e] at h; cases h; exact .tup hp.sq (optAll_ok ih hr e)
    | wt hp hr =>
      unfold toD at h
      cases e : optAll (toD G n) _ with
      | none => rw [e] at h; exact nomatch h
      | some ds => rw [e] at h; cases h; exact .tup hp.sq (optAll_ok ih hr e)
    | rl hp hr =>
      unfold toD at h
      cases e : optAll (toD G n) _ with
      | none => rw [e] at h; exact nomatch h
      | some ds => rw [e] at h; cases h; exact .lst hp.sq (optAll_ok ih hr e)
    | @ref l a ha =>
      unfold toD at h
      cases q : G[l]? with
      | none => rw [q] at h; exact nomatch h
      | some o =>
        rw [q] at h
        cases o with
        | lst xs =>
          simp only at h
          obtain ⟨vs, e1, r1⟩ := S.list ha q
          cases e : optAll (toD G n) xs with
          | none => rw [e] at h; exact nomatch h
          | some ds => rw [e] at h; cases h; exact .lst (SqL.of e1) (optAll_ok ih r1 e)
        | _ => exact nomatch h
    | _ => cases h; constructor
def rEqA (K : PySem.W.Frag) : R2 := fun x y H Q => rEq x y H Q ∨ rEqD K x y H Q
def rNeA (K : PySem.W.Frag) : R2 := fun x y H Q => rNe x y H Q ∨ rNeD K x y H Q
theorem orEq {X : Cx} (hu : X.A.units + 64 < cLine) : OpR X (compareOp .Eq) (rEqA X.K) := op_eq.or (op_eqD hu)
theorem orNe {X : Cx} (hu : X.A.units + 64 < cLine) : OpR X (compareOp .NotEq) (rNeA X.K) := op_ne.or (op_neD hu)
theorem eqU_ok (S : Sim K ρ G H) {x y : U} {v w : V} (rx : RU K ρ H x v) (ry : RU K ρ H y w) {b : Bool} (h : eqU G x y = some b) :
    (scal v w = true ∧ decide (v = w) = b) ∨ ∃ d e, Dp K.K H v d ∧ Dp K.K H w e ∧ SeqAt.shaped d = true ∧ SeqAt.shaped e = true ∧ PyData.eqv d e = b := by
  unfold eqU at h
  cases q : scalEq x y with
  | some c => rw [q] at h; cases h; exact .inl (scalEq_ok rx ry q)
  | none =>
    rw [q] at h
    simp only at h
    cases e1 : toD G 40 x with
    | none => rw [e1] at h; exact nomatch h
    | some d =>
      cases e2 : toD G 40 y with
      | none => rw [e1, e2] at h; exact nomatch h
      | some e =>
        rw [e1, e2] at h
        simp only at h
        by_cases hs : SeqAt.shaped d = true ∧ SeqAt.shaped e = true
        · rw [if_pos hs] at h
          cases h
          exact .inr ⟨d, e, toD_ok S _ _ _ _ rx e1, toD_ok S _ _ _ _ ry e2, hs.1, hs.2, rfl⟩
        · rw [if_neg hs] at h; exact nomatch h
theorem o2Eq : Op2 K (rEqA K.K) gEq := by
  intro ρ G H x y v w Q E S rx ry h
  unfold gEq at h
  cases q : eqU G x y with
  | none => rw [q] at h; exact h.elim
  | some b =>
    rw [q] at h
    have e := h.end_ S (.bl b)
    rcases eqU_ok S rx ry q with ⟨h1, h2⟩ | ⟨d, d', h1, h2, h3, h4, h5⟩
    · exact .inl ⟨h1, by rw [h2]; exact e⟩
    · exact .inr ⟨d, d', h1, h2, h3, h4, by rw [h5]; exact e⟩
theorem o2Ne : Op2 K (rNeA K.K) gNe := by
  intro ρ G H x y v w Q E S rx ry h
  unfold gNe at h
  cases q : eqU G x y with
  | none => rw [q] at h; exact h.elim
  | some b =>
    rw [q] at h
    have e := h.end_ S (.bl (!b))
    rcases eqU_ok S rx ry q with ⟨h1, h2⟩ | ⟨d, d', h1, h2, h3, h4, h5⟩
    · exact .inl ⟨h1, by rw [h2]; exact e⟩
    · exact .inr ⟨d, d', h1, h2, h3, h4, by rw [h5]; exact e⟩
/-! is None -/
def gIsN (x y : U) (G : Gp) : R U := match y with
  | .non => .ok (.bl (match x with
    | .non => true
    | _ => false)) G
  | _ => .bad
def gNotN (x y : U) (G : Gp) : R U := match y with
  | .non => .ok (.bl (match x with
    | .non => false
    | _ => true)) G
  | _ => .bad
theorem o2IsN : Op2 K (fun x y H Q => y = .non ∧ Q (.bl (decide (x = .non))) H) gIsN := by
  intro ρ G H x y v w Q E S rx ry h
  cases ry with
  | non => cases rx <;> exact ⟨rfl, h.end_ S (.bl _)⟩
  | _ => exact h.elim
theorem o2NotN : Op2 K (fun x y H Q => y = .non ∧ Q (.bl (!decide (x = .non))) H) gNotN := by
  intro ρ G H x y v w Q E S rx ry h
  cases ry with
  | non => cases rx <;> exact ⟨rfl, h.end_ S (.bl _)⟩
  | _ => exact h.elim
/-! in: flat things in a list or a tuple -/
def flatU : U → Bool
  | .non => true | .bl _ => true | .int _ => true | .str _ => true
  | _ => false
def eqF : U → U → Bool
  | .non, .non => true
  | .bl a, .bl b => a == b
  | .bl a, .int b => (if a then 1 else 0) == b
  | .int a, .bl b => a == (if b then 1 else 0)
  | .int a, .int b => a == b
  | .str a, .str b => a == b
  | _, _ => false
def seqU (G : Gp) (u : U) : Option (List U) := match u with
  | .tup xs => some xs
  | .rl xs => some xs
  | .wt xs => some xs
  | .ref l => match G[l]? with
    | some (.lst xs) => some xs
    | _ => none
  | _ => none
def gIn (neg : Bool) (x y : U) (G : Gp) : R U := match seqU G y with
  | some xs => if flatU x = true ∧ xs.all flatU = true then .ok (.bl (if neg then !(xs.any fun y => eqF y x) else xs.any fun y => eqF y x)) G else .bad
  | none => .bad
theorem seqU_ok (S : Sim K ρ G H) {y : U} {w : V} (ry : RU K ρ H y w) {xs : List U} (h : seqU G y = some xs) : ∃ p vs, w = .ref p ∧ (SqL K.K H p vs ∨ SqT K.K H p vs) ∧ RUs K ρ H xs vs := by
  cases ry with
  | tup hp hr => cases h; exact ⟨_, _, rfl, .inr hp.sq, hr⟩
  | rl hp hr => cases h; exact ⟨_, _, rfl, .inl hp.sq, hr⟩
  | wt hp hr => cases h; exact ⟨_, _, rfl, .inr hp.sq, hr⟩
  | @ref l a ha =>
    unfold seqU at h
    simp only at h
    cases q : G[l]? with
    | none => rw [q] at h; exact nomatch h
    | some o =>
      rw [q] at h
      cases o with
      | lst ys =>
        cases h
        obtain ⟨vs, e1, r1⟩ := S.list ha q
        exact ⟨_, _, rfl, .inl (SqL.of e1), r1⟩
      | _ => exact nomatch h
  | _ => exact nomatch h
theorem flat_rel {x : U} {v : V} (r : RU K ρ H x v) (h : flatU x = true) : flatV v = true := by
  cases r <;> first | rfl | (cases h; done)
theorem flats_rel : ∀ {xs : List U} {vs : List V}, RUs K ρ H xs vs → xs.all flatU = true → vs.all flatV = true
  | _, _, .nil, _ => rfl
  | _, _, .cons h t, e => by
    rw [List.all_cons, Bool.and_eq_true] at e ⊢
    exact ⟨flat_rel h e.1, flats_rel t e.2⟩
theorem eqF_rel {x y : U} {v w : V} (rx : RU K ρ H x v) (ry : RU K ρ H y w) (hx : flatU x = true) (hy : flatU y = true) : eqV v w = eqF x y := by
  cases rx <;> first | (cases hx; done) | (cases ry <;> first | rfl | (cases hy; done))
theorem inV_rel {x : U} {v : V} (rx : RU K ρ H x v) (hx : flatU x = true) : ∀ {xs : List U} {vs : List V}, RUs K ρ H xs vs → xs.all flatU = true → inV v vs = xs.any fun y => eqF y x
  | _, _, .nil, _ => rfl
  | _, _, .cons (x := y) (v := w) (xs := ys) (vs := ws) h t, e => by
    rw [List.all_cons, Bool.and_eq_true] at e
    have ih := inV_rel rx hx t e.2
    unfold inV at ih ⊢
    rw [List.any_cons, List.any_cons, ih, eqF_rel h rx e.1 hx]
theorem o2In {neg : Bool} : Op2 K (rIn K.K neg) (gIn neg) := by
  intro ρ G H x y v w Q E S rx ry h
  unfold gIn at h
  cases q : seqU G y with
  | none => rw [q] at h; exact h.elim
  | some xs =>
    rw [q] at h
    simp only at h
    by_cases hf : flatU x = true ∧ xs.all flatU = true
    · rw [if_pos hf] at h
      obtain ⟨p, vs, rfl, hq, hr⟩ := seqU_ok S ry q
      refine ⟨p, vs, rfl, hq, flat_rel rx hf.1, flats_rel hr hf.2, ?_⟩
      rw [inV_rel rx hf.1 hr hf.2]
      exact h.end_ S (.bl _)
    · rw [if_neg hf] at h; exact h.elim
end
section
variable {X : Cx} {Z : ZZ X.K} {W : WX} {a b c : Expr} {fa fb fc : Ev → Gp → R U} {pos : Pos}
/-- the chain a op b op' c -/
def eChain (g g' : U → U → Gp → R U) (fa fb fc : Ev → Gp → R U) : Ev → Gp → R U := fun env G => (fa env G).bind fun x G1 => (fb env G1).bind fun y G2 => (asB (g x y G2)).bind fun k G3 => if k = true then (fc env G3).bind fun z G4 => g' y z G4 else .ok (.bl false) G3
theorem tChain_of {K : KZ} {W : WX} {r r' : R2} {g g' : U → U → Gp → R U} (o : Op2 K r g) (o' : Op2 K r' g') (σ : St) (H : Hp) (Q : VK) (h : tF K W (eChain g g' fa fb fc) σ H Q) : tChain r r' (tF K W fa) (tF K W fb) (tF K W fc) σ H Q := by
  obtain ⟨ρ, G, env, S, e, h⟩ := h
  refine tG_mono (step S e h) fun v H1 ⟨ρ1, G1, x, p1, s1, S1, e1, r1, h1⟩ => tG_mono (step S1 e1 h1) fun w H2 ⟨ρ2, G2, y, p2, s2, S2, e2, r2, h2⟩ => ?_
  refine o ρ2 G2 H2 x y v w _ (fun c d H' => W c d σ H') S2 (r1.mono p2 s2) r2 ?_
  have h2 : Post K (RU K) ρ2 H2 ((asB (g x y G2)).bind fun k G3 => if k = true then (fc env G3).bind fun z G4 => g' y z G4 else .ok (.bl false) G3) Q fun c d H' => W c d σ H' := h2
  cases q : g x y G2 with
  | bad => rw [q] at h2; exact h2
  | exc c fs G3 => rw [q] at h2; exact h2
  | ok u G3 =>
    rw [q] at h2
    intro v3 ρ3 H3 p3 s3 S3 r3
    cases r3 with
    | bl k =>
      refine ⟨k, rfl, ?_⟩
      have h3 : Post K (RU K) ρ3 H3 (if k = true then (fc env G3).bind fun z G4 => g' y z G4 else .ok (.bl false) G3) Q fun c d H' => W c d σ H' := Post.lift h2 p3 s3
      cases k with
      | false => exact h3.end_ S3 (.bl _)
      | true =>
        rw [if_pos rfl]
        rw [if_pos rfl] at h3
        exact tG_mono (step S3 (e2.mono p3 s3) h3) fun w4 H4 ⟨ρ4, G4, z, p4, s4, S4, e4, r4, h4⟩ => o' _ _ _ _ _ _ _ _ _ S4 ((r2.mono p3 s3).mono p4 s4) r4 h4
    | _ => exact h2.elim
theorem fchain {op op' : CmpOp} {r r' : R2} {g g' : U → U → Gp → R U} (o : Op2 (kz X Z) r g) (o' : Op2 (kz X Z) r' g') (ho : OpR X (compareOp op) r) (ho' : OpR X (compareOp op') r') (ha : FE X Z W a fa) (hb : FE X Z W b fb) (hc : FE X Z W c fc)
    (hm : lastMarks [op, op'] [b, c] = false := by with_unfolding_all rfl) : FE X Z W (.Compare a [op, op'] [b, c] pos) (eChain g g' fa fb fc) := PEimp (pe_chain ho ho' ha hb hc hm) (tChain_of o o')
theorem ftchain {op op' : CmpOp} {r r' : R2} {g g' : U → U → Gp → R U} (o : Op2 (kz X Z) r g) (o' : Op2 (kz X Z) r' g') (ho : OpR X (compareOp op) r) (ho' : OpR X (compareOp op') r') (ha : FE X Z W a fa) (hb : FE X Z W b fb) (hc : FE X Z W c fc)
    (hm : lastMarks [op, op'] [b, c] = false := by with_unfolding_all rfl) : FT X Z W (.Compare a [op, op'] [b, c] pos) (bVal (eChain g g' fa fb fc)) := by
  refine PTimp (pt_chain ho ho' ha hb hc hm) fun σ H Q h => ?_
  exact tChain_of o o' σ H _ (tB_of σ H Q h)
end
section
variable {X : Cx} {Z : ZZ X.K} {W : WX} {a b c : Expr} {fa fb fc : Ev → Gp → R U} {pos : Pos}
abbrev gLt := gCmpI fun i j => decide (i < j)
abbrev gLe := gCmpI fun i j => decide (i ≤ j)
abbrev gGt := gCmpI fun i j => decide (j < i)
abbrev gGe := gCmpI fun i j => decide (j ≤ i)
/-! int comparisons, as tests and as values -/
theorem flt (ha : FE X Z W a fa) (hb : FE X Z W b fb) : FE X Z W (.Compare a [.Lt] [b] pos) (eBin gLt fa fb) := fcmp o2CmpI op_lt ha hb (nomark _)
theorem fle (ha : FE X Z W a fa) (hb : FE X Z W b fb) : FE X Z W (.Compare a [.LtE] [b] pos) (eBin gLe fa fb) := fcmp o2CmpI op_le ha hb (nomark _)
theorem fgt (ha : FE X Z W a fa) (hb : FE X Z W b fb) : FE X Z W (.Compare a [.Gt] [b] pos) (eBin gGt fa fb) := fcmp o2CmpI op_gt ha hb (nomark _)
theorem fge (ha : FE X Z W a fa) (hb : FE X Z W b fb) : FE X Z W (.Compare a [.GtE] [b] pos) (eBin gGe fa fb) := fcmp o2CmpI op_ge ha hb (nomark _)
theorem feq (hu : X.A.units + 64 < cLine) (ha : FE X Z W a fa) (hb : FE X Z W b fb) : FE X Z W (.Compare a [.Eq] [b] pos) (eBin gEq fa fb) := fcmp o2Eq (orEq hu) ha hb (nomark _)
theorem fne (hu : X.A.units + 64 < cLine) (ha : FE X Z W a fa) (hb : FE X Z W b fb) : FE X Z W (.Compare a [.NotEq] [b] pos) (eBin gNe fa fb) := fcmp o2Ne (orNe hu) ha hb (nomark _)
theorem fisN (ha : FE X Z W a fa) (hb : FE X Z W b fb) : FE X Z W (.Compare a [.Is] [b] pos) (eBin gIsN fa fb) := fcmp o2IsN op_isN ha hb (nomark _)
theorem fnotN (ha : FE X Z W a fa) (hb : FE X Z W b fb) : FE X Z W (.Compare a [.IsNot] [b] pos) (eBin gNotN fa fb) := fcmp o2NotN op_notN ha hb (nomark _)
theorem fin_ (ha : FE X Z W a fa) (hb : FE X Z W b fb) (hm : behindInMarks .In b = false := by rfl) : FE X Z W (.Compare a [.In] [b] pos) (eBin (gIn false) fa fb) := fcmp o2In op_in_seq ha hb hm
theorem fnin (ha : FE X Z W a fa) (hb : FE X Z W b fb) (hm : behindInMarks .NotIn b = false := by rfl) : FE X Z W (.Compare a [.NotIn] [b] pos) (eBin (gIn true) fa fb) := fcmp o2In op_notIn_seq ha hb hm
theorem tlt (ha : FE X Z W a fa) (hb : FE X Z W b fb) : FT X Z W (.Compare a [.Lt] [b] pos) (bVal (eBin gLt fa fb)) := ft_cmp o2CmpI op_lt ha hb (nomark _)
theorem tle (ha : FE X Z W a fa) (hb : FE X Z W b fb) : FT X Z W (.Compare a [.LtE] [b] pos) (bVal (eBin gLe fa fb)) := ft_cmp o2CmpI op_le ha hb (nomark _)
theorem tgt (ha : FE X Z W a fa) (hb : FE X Z W b fb) : FT X Z W (.Compare a [.Gt] [b] pos) (bVal (eBin gGt fa fb)) := ft_cmp o2CmpI op_gt ha hb (nomark _)
theorem tge (ha : FE X Z W a fa) (hb : FE X Z W b fb) : FT X Z W (.Compare a [.GtE] [b] pos) (bVal (eBin gGe fa fb)) := ft_cmp o2CmpI op_ge ha hb (nomark _)
theorem teq (hu : X.A.units + 64 < cLine) (ha : FE X Z W a fa) (hb : FE X Z W b fb) : FT X Z W (.Compare a [.Eq] [b] pos) (bVal (eBin gEq fa fb)) := ft_cmp o2Eq (orEq hu) ha hb (nomark _)
theorem tne (hu : X.A.units + 64 < cLine) (ha : FE X Z W a fa) (hb : FE X Z W b fb) : FT X Z W (.Compare a [.NotEq] [b] pos) (bVal (eBin gNe fa fb)) := ft_cmp o2Ne (orNe hu) ha hb (nomark _)
theorem tisN (ha : FE X Z W a fa) (hb : FE X Z W b fb) : FT X Z W (.Compare a [.Is] [b] pos) (bVal (eBin gIsN fa fb)) := ft_cmp o2IsN op_isN ha hb (nomark _)
theorem tnotN (ha : FE X Z W a fa) (hb : FE X Z W b fb) : FT X Z W (.Compare a [.IsNot] [b] pos) (bVal (eBin gNotN fa fb)) := ft_cmp o2NotN op_notN ha hb (nomark _)
theorem tin (ha : FE X Z W a fa) (hb : FE X Z W b fb) (hm : behindInMarks .In b = false := by rfl) : FT X Z W (.Compare a [.In] [b] pos) (bVal (eBin (gIn false) fa fb)) := ft_cmp o2In op_in_seq ha hb hm
theorem tnin (ha : FE X Z W a fa) (hb : FE X Z W b fb) (hm : behindInMarks .NotIn b = false := by rfl) : FT X Z W (.Compare a [.NotIn] [b] pos) (bVal (eBin (gIn true) fa fb)) := ft_cmp o2In op_notIn_seq ha hb hm
/-- a <= b <= c and its like -/
theorem fcleLe (ha : FE X Z W a fa) (hb : FE X Z W b fb) (hc : FE X Z W c fc) (hm : lastMarks [.LtE, .LtE] [b, c] = false := by with_unfolding_all rfl) : FE X Z W (.Compare a [.LtE, .LtE] [b, c] pos) (eChain gLe gLe fa fb fc) := fchain o2CmpI o2CmpI op_le op_le ha hb hc hm
theorem fcleLt (ha : FE X Z W a fa) (hb : FE X Z W b fb) (hc : FE X Z W c fc) (hm : lastMarks [.LtE, .Lt] [b, c] = false := by with_unfolding_all rfl) : FE X Z W (.Compare a [.LtE, .Lt] [b, c] pos) (eChain gLe gLt fa fb fc) := fchain o2CmpI o2CmpI op_le op_lt ha hb hc hm
theorem fcltLe (ha : FE X Z W a fa) (hb : FE X Z W b fb) (hc : FE X Z W c fc) (hm : lastMarks [.Lt, .LtE] [b, c] = false := by with_unfolding_all rfl) : FE X Z W (.Compare a [.Lt, .LtE] [b, c] pos) (eChain gLt gLe fa fb fc) := fchain o2CmpI o2CmpI op_lt op_le ha hb hc hm
theorem fcltLt (ha : FE X Z W a fa) (hb : FE X Z W b fb) (hc : FE X Z W c fc) (hm : lastMarks [.Lt, .Lt] [b, c] = false := by with_unfolding_all rfl) : FE X Z W (.Compare a [.Lt, .Lt] [b, c] pos) (eChain gLt gLt fa fb fc) := fchain o2CmpI o2CmpI op_lt op_lt ha hb hc hm
theorem tcleLe (ha : FE X Z W a fa) (hb : FE X Z W b fb) (hc : FE X Z W c fc) (hm : lastMarks [.LtE, .LtE] [b, c] = false := by with_unfolding_all rfl) : FT X Z W (.Compare a [.LtE, .LtE] [b, c] pos) (bVal (eChain gLe gLe fa fb fc)) := ftchain o2CmpI o2CmpI op_le op_le ha hb hc hm
theorem tcleLt (ha : FE X Z W a fa) (hb : FE X Z W b fb) (hc : FE X Z W c fc) (hm : lastMarks [.LtE, .Lt] [b, c] = false := by with_unfolding_all rfl) : FT X Z W (.Compare a [.LtE, .Lt] [b, c] pos) (bVal (eChain gLe gLt fa fb fc)) := ftchain o2CmpI o2CmpI op_le op_lt ha hb hc hm
theorem tcltLe (ha : FE X Z W a fa) (hb : FE X Z W b fb) (hc : FE X Z W c fc) (hm : lastMarks [.Lt, .LtE] [b, c] = false := by with_unfolding_all rfl) : FT X Z W (.Compare a [.Lt, .LtE] [b, c] pos) (bVal (eChain gLt gLe fa fb fc)) := ftchain o2CmpI o2CmpI op_lt op_le ha hb hc hm
theorem tcltLt (ha : FE X Z W a fa) (hb : FE X Z W b fb) (hc : FE X Z W c fc) (hm : lastMarks [.Lt, .Lt] [b, c] = false := by with_unfolding_all rfl) : FT X Z W (.Compare a [.Lt, .Lt] [b, c] pos) (bVal (eChain gLt gLt fa fb fc)) := ftchain o2CmpI o2CmpI op_lt op_lt ha hb hc hm
end
end FL

set_option Elab.async false
set_option linter.all false
set_option maxRecDepth 100000
set_option maxHeartbeats 4000000
set_option autoImplicit false
namespace FL
open PySem PySem.Spec L2

/-! ### items, slices -/
def gIdx (x y : U) (G : Gp) : R U := match y with
  | .int i => match x with
    | .str z => if z.length ≤ 16777216 then (match atI z.cps.toList i with
      | some c => .ok (.str ⟨#[c]⟩) G
      | none => .bad) else .bad
    | _ => match seqU G x with
      | some xs => match atI xs i with
        | some u => .ok u G
        | none => .bad
      | none => .bad
  | _ => .bad
section
variable {K : KZ} {ρ : List Addr} {G : Gp} {H : Hp}
theorem atI_rel {xs : List U} {vs : List V} (r : RUs K ρ H xs vs) {i : Int} {u : U} (h : atI xs i = some u) : ∃ v, atI vs i = some v ∧ RU K ρ H u v := by
  unfold atI at h ⊢
  rw [← r.len]
  cases q : ixN xs.length i with
  | none => rw [q] at h; exact nomatch h
  | some j =>
    rw [q] at h
    exact r.getU h
theorem o2Idx : Op2 K (rIx K.K) gIdx := by
  intro ρ G H x y v w Q E S rx ry h
  cases ry with
  | int i =>
    have sq : ∀ xs, seqU G x = some xs → gIdx x (.int i) G = (match atI xs i with
        | some u => .ok u G
        | none => .bad) → rIx K.K v (.int i) H Q := by
      intro xs hs hg
      rw [hg] at h
      obtain ⟨p, vs, rfl, hq, hr⟩ := seqU_ok S rx hs
      cases q : atI xs i with
      | none => rw [q] at h; exact h.elim
      | some u =>
        rw [q] at h
        obtain ⟨z, e, rz⟩ := atI_rel hr q
        have f := h.end_ S rz
        rcases hq with hq | hq
        · exact .inl ⟨p, vs, i, z, rfl, rfl, hq, e, f⟩
        · exact .inr (.inl ⟨p, vs, i, z, rfl, rfl, hq, e, f⟩)
    cases rx with
    | str z =>
      unfold gIdx at h
      simp only at h
      by_cases hl : z.length ≤ 16777216
      · rw [if_pos hl] at h
        cases q : atI z.cps.toList i with
        | none => rw [q] at h; exact h.elim
        | some c => rw [q] at h; exact .inr (.inr ⟨z, i, c, rfl, rfl, by rw [line_eq]; exact hl, q, h.end_ S (.str _)⟩)
      · rw [if_neg hl] at h; exact h.elim
    | @tup xs vs a ha hr => exact sq xs rfl rfl
    | @rl xs vs a ha hr => exact sq xs rfl rfl
    | @wt xs vs a ha hr => exact sq xs rfl rfl
    | @ref l a ha =>
      cases q : seqU G (.ref l) with
      | none => unfold gIdx at h; simp only [q] at h; exact h.elim
      | some xs => exact sq xs q (by unfold gIdx; simp only [q])
    | _ => exact h.elim
  | _ => cases x <;> exact h.elim
def cutU {α : Type} (xs : List α) (lo hi : Option Int) : List α := (xs.drop (HT.sIx xs.length 0 lo)).take (HT.sIx xs.length xs.length hi - HT.sIx xs.length 0 lo)
theorem cutU_rel {xs : List U} {vs : List V} (r : RUs K ρ H xs vs) (lo hi : Option Int) : RUs K ρ H (cutU xs lo hi) (cutV vs lo hi) := by
  unfold cutU cutV
  rw [r.len]
  exact (r.drop _).take _
def gSl (x : U) (lo hi : Option Int) (G : Gp) : R U := match x with
  | .str z => if z.length ≤ 16777216 then .ok (.str (cutS z lo hi)) G else .bad
  | .tup xs => .ok (.tup (cutU xs lo hi)) G
  | .rl xs => .ok (.ref G.length) (G ++ [.lst (cutU xs lo hi)])
  | .ref l => match G[l]? with
    | some (.lst xs) => .ok (.ref G.length) (G ++ [.lst (cutU xs lo hi)])
    | _ => .bad
  | _ => .bad
def rSlAll (K : PySem.W.Frag) : V → Option Int → Option Int → Hp → VK → Prop := fun x lo hi H Q => (rSlL K x lo hi H Q ∨ rSlA K x lo hi H Q) ∨ rSlS x lo hi H Q
theorem slAll {X : Cx} : SlR X (rSlAll X.K) := (sl_list.or sl_tupA).or sl_str
theorem oSl {x : U} {v : V} {lo hi : Option Int} {Q : VK} {E : XK} (S : Sim K ρ G H) (rx : RU K ρ H x v) (h : Post K (RU K) ρ H (gSl x lo hi G) Q E) : rSlAll K.K v lo hi H Q := by
  cases rx with
  | str z =>
    unfold gSl at h
    simp only at h
    by_cases hl : z.length ≤ 16777216
    · rw [if_pos hl] at h
      exact .inr ⟨z, rfl, by rw [line_eq]; exact hl, h.end_ S (.str _)⟩
    · rw [if_neg hl] at h; exact h.elim
  | @tup xs vs a ha hr =>
    refine .inl (.inr ⟨a, vs, rfl, ha.sq, fun z => ?_, fun _ => newTup S (cutU_rel hr lo hi) h⟩)
    have e : cutU xs lo hi = xs := by
      unfold cutU
      rw [hr.len, z.1, z.2]
      rw [List.drop_zero, Nat.sub_zero, ← hr.len, List.take_length]
    have h : Post K (RU K) ρ H (.ok (.tup (cutU xs lo hi)) G) Q E := h
    rw [e] at h
    exact h.end_ S (.tup ha hr)
  | @rl xs vs a ha hr => exact .inl (.inl ⟨a, vs, rfl, ha.sq, newLst S (cutU_rel hr lo hi) h⟩)
  | @ref l a ha =>
    unfold gSl at h
    simp only at h
    cases q : G[l]? with
    | none => rw [q] at h; exact h.elim
    | some o =>
      rw [q] at h
      cases o with
      | lst xs =>
        obtain ⟨vs, e1, r1⟩ := S.list ha q
        exact .inl (.inl ⟨a, vs, rfl, SqL.of e1, newLst S (cutU_rel r1 lo hi) h⟩)
      | _ => exact h.elim
  | _ => exact h.elim
end
/-! parts of a slice -/
def pNo : Ev → Gp → R (Option Int) := fun _ G => .ok none G
def pInt (f : Ev → Gp → R U) : Ev → Gp → R (Option Int) := fun env G => (f env G).bind fun u G1 => match u with
  | .int i => .ok (some i) G1
  | _ => .bad
def eSl (f : Ev → Gp → R U) (lo hi : Ev → Gp → R (Option Int)) : Ev → Gp → R U := fun env G => (f env G).bind fun x G1 => (lo env G1).bind fun l G2 => (hi env G2).bind fun h G3 => gSl x l h G3
abbrev FO (X : Cx) (Z : ZZ X.K) (W : WX) (e : Option Expr) (f : Ev → Gp → R (Option Int)) : Prop := PO X e (tG (kz X Z) (fun _ _ a b => a = b) W f)
theorem POimp {X : Cx} {e : Option Expr} {t t' : TO} (h : PO X e t) (i : ∀ σ H Q, t' σ H Q → t σ H Q) : PO X e t' := ⟨fun pins s σ H Q I q => h.run pins s σ H Q I (i σ H Q q)⟩
section
variable {X : Cx} {Z : ZZ X.K} {W : WX} {a b e : Expr} {fa fb f : Ev → Gp → R U} {lo hi : Ev → Gp → R (Option Int)} {l h : Option Expr} {pos p2 : Pos}
theorem fidx (ha : FE X Z W a fa) (hb : FE X Z W b fb) (hs : PlainIx b := by exact fun _ _ => rfl) : FE X Z W (.Subscript a b pos) (eBin gIdx fa fb) := PEimp (pe_ix ix_seq ha hb hs) (tOp_of o2Idx)
theorem fono : FO X Z W none pNo := POimp po_none fun σ H Q ⟨ρ, G, env, S, e, h⟩ => Post.end_ (rel := fun _ _ (a b : Option Int) => a = b) h S rfl
theorem foint (he : FE X Z W e f) : FO X Z W (some e) (pInt f) := by
  refine POimp (po_some he) fun σ H Q ⟨ρ, G, env, S, e, h⟩ => ?_
  refine tG_mono (step (rel' := fun _ _ (a b : Option Int) => a = b) S e h) fun v H1 ⟨ρ1, G1, x, p1, s1, S1, e1, r1, h1⟩ => ?_
  cases r1 with
  | int i => exact ⟨i, rfl, h1.end_ S1 rfl⟩
  | _ => exact h1.elim
theorem fslice (ha : FE X Z W a fa) (hl : FO X Z W l lo) (hh : FO X Z W h hi) : FE X Z W (.Subscript a (.Slice l h none p2) pos) (eSl fa lo hi) := by
  refine PEimp (pe_slice slAll ha hl hh) fun σ H Q ⟨ρ, G, env, S, e, h⟩ => ?_
  refine tG_mono (step S e h) fun v H1 ⟨ρ1, G1, x, p1, s1, S1, e1, r1, h1⟩ => ?_
  refine tG_mono (step (rel := fun _ _ (a b : Option Int) => a = b) S1 e1 h1) fun w H2 ⟨ρ2, G2, y, p2, s2, S2, e2, r2, h2⟩ => ?_
  subst r2
  refine tG_mono (step (rel := fun _ _ (a b : Option Int) => a = b) S2 e2 h2) fun w3 H3 ⟨ρ3, G3, z, p3, s3, S3, e3, r3, h3⟩ => ?_
  subst r3
  exact oSl S3 ((r1.mono p2 s2).mono p3 s3) h3
end

/-! ### stores into lists -/
def R.bindN {α β : Type} (r : R α) (k : α → Gp → R β) : R β := match r with
  | .ok a G => k a G
  | _ => .bad
def setU (o i v : U) (G : Gp) : R Unit := match o, i with
  | .ref l, .int k => match G[l]? with
    | some (.lst xs) => match ixN xs.length k with
      | some j => .ok () (G.set l (.lst (xs.set j v)))
      | none => .bad
    | _ => .bad
  | _, _ => .bad
def gSubE (fo fi : Ev → Gp → R U) : U → Ev → Gp → R Ev := fun v env G => (fo env G).bindN fun o G1 => (fi env G1).bindN fun i G2 => (setU o i v G2).bindN fun _ G3 => .ok env G3
section
variable {K : KZ} {ρ : List Addr} {G : Gp} {H : Hp}
/-- the list at l changes -/
theorem Sim.setList (S : Sim K ρ G H) {l : Nat} {a : Addr} {xs ys : List U} {vs ws : List V} (ha : ρ[l]? = some a) (e : H a = some (.lst vs)) (r : RUs K ρ H ys ws) : Sim K ρ (G.set l (.lst ys)) (upd H a (.lst ws)) ∧ Stb K H (upd H a (.lst ws)) := by
  have st : Stb K H (upd H a (.lst ws)) := stb_write e (fun _ z => nomatch z) (fun _ _ z => nomatch z) fun _ z => nomatch z
  exact ⟨S.write ha e (fun _ z => nomatch z) (fun _ _ z => nomatch z) (fun _ z => nomatch z) (show RUs K ρ _ ys ws from r.mono pre_refl st), st⟩
theorem ixN_rel {xs : List U} {vs : List V} (r : RUs K ρ H xs vs) (k : Int) : ixN vs.length k = ixN xs.length k := by rw [r.len]
theorem setU_ok {o i v : U} {ov iv vv : V} (S : Sim K ρ G H) (ro : RU K ρ H o ov) (ri : RU K ρ H i iv) (rv : RU K ρ H v vv) {Q : Hp → Prop} {G' : Gp} (h : setU o i v G = .ok () G')
    (q : ∀ H', Stb K H H' → Sim K ρ G' H' → Q H') : rSetL ov iv vv H Q := by
  unfold setU at h
  cases ro with
  | @ref l a ha =>
    cases ri with
    | int k =>
      simp only at h
      cases e1 : G[l]? with
      | none => rw [e1] at h; exact nomatch h
      | some ob =>
        rw [e1] at h
        cases ob with
        | lst xs =>
          simp only at h
          cases e2 : ixN xs.length k with
          | none => rw [e2] at h; exact nomatch h
          | some j =>
            rw [e2] at h
            cases h
            obtain ⟨vs, e3, r3⟩ := S.list ha e1
            obtain ⟨S', st⟩ := S.setList (xs := xs) ha e3 (r3.set rv j)
            exact ⟨a, vs, k, j, rfl, rfl, e3, by rw [ixN_rel r3]; exact e2, q _ st S'⟩
        | _ => exact nomatch h
    | _ => exact nomatch h
  | _ => cases ri <;> exact nomatch h
end
section
variable {X : Cx} {Z : ZZ X.K} {W : WX} {o i e : Expr} {fo fi f : Ev → Gp → R U} {pos : Pos}
theorem bindN_ok {α β : Type} {r : R α} {k : α → Gp → R β} {b : β} {G' : Gp} (h : r.bindN k = .ok b G') : ∃ a G1, r = .ok a G1 ∧ k a G1 = .ok b G' := by
  cases r with
  | ok a G1 => exact ⟨a, G1, rfl, h⟩
  | _ => exact nomatch h
theorem bindN_nx {α β : Type} {r : R α} {k : α → Gp → R β} {c : Str} {fs : List (Str × U)} {G' : Gp} (h : r.bindN k = .exc c fs G') : ∃ a G1, r = .ok a G1 ∧ k a G1 = .exc c fs G' := by
  cases r with
  | ok a G1 => exact ⟨a, G1, rfl, h⟩
  | _ => exact nomatch h
theorem nxSub {fo fi : Ev → Gp → R U} : NoX (gSubE fo fi) := fun u env G c fs G' h => by
  obtain ⟨a, G1, _, h⟩ := bindN_nx h
  obtain ⟨b, G2, _, h⟩ := bindN_nx h
  obtain ⟨d, G3, _, h⟩ := bindN_nx h
  exact nomatch h
/-- a reading of an expression whose value is known -/
theorem tF_ok {K : KZ} {W : WX} {f : Ev → Gp → R U} {σ : St} {H : Hp} {ρ : List Addr} {G G1 : Gp} {env : Ev} {u : U} {Q : VK} (S : Sim K ρ G H) (e : REq K ρ H env σ) (hf : f env G = .ok u G1)
    (q : ∀ v ρ1 H1, ρ <+: ρ1 → Stb K H H1 → Sim K ρ1 G1 H1 → RU K ρ1 H1 u v → Q v H1) : tF K W f σ H Q := ⟨ρ, G, env, S, e, by rw [hf]; exact q⟩
theorem fgsub (ho : FE X Z W o fo) (hi : FE X Z W i fi) (ha : ∀ v, assign (.Subscript o i pos) X.env v = (do
      let ov ← holding [v] (eval o X.env)
      let iv ← holding [v, ov] (eval i X.env)
      standAt pos
      holding [v, ov, iv] (setItem ov iv v)
      release [v, ov, iv] []) := by intro _; rfl) : FG X Z (.Subscript o i pos) (gSubE fo fi) := by
  refine PGimp (pg_sub ho hi set_list ha) fun v σ H Q ⟨ρ, G, env, u, S, e, r, h⟩ => ?_
  cases q : gSubE fo fi u env G with
  | bad => rw [q] at h; exact h.elim
  | exc c fs G' => exact absurd q (nxSub _ _ _ _ _ _)
  | ok env' G' =>
    rw [q] at h
    obtain ⟨a, G1, q1, q⟩ := bindN_ok q
    obtain ⟨b, G2, q2, q⟩ := bindN_ok q
    obtain ⟨d, G3, q3, q⟩ := bindN_ok q
    cases q
    refine tF_ok S e q1 fun ov ρ1 H1 p1 s1 S1 r1 => tF_ok S1 (e.mono p1 s1) q2 fun iv ρ2 H2 p2 s2 S2 r2 => ?_
    exact setU_ok S2 (r1.mono p2 s2) r2 ((r.mono p1 s1).mono p2 s2) q3 fun H3 s3 S3 => h σ ρ2 H3 (p1.trans p2) ((s1.trans s2).trans s3) S3 (((e.mono p1 s1).mono p2 s2).mono pre_refl s3)
end

/-! ### name op= e; o[i] op= e -/
def sAug (i : Nat) (g : U → U → Gp → R U) (f : Ev → Gp → R U) : Ev → Gp → SR := fun env G => (eVar i env G).andThen env fun x G0 => (f env G0).andThen env fun y G1 => (g x y G1).andThen env fun z G2 => .nx (env.set i (some z)) G2
theorem opS {K : KZ} {W : WX} {r : R2} {g : U → U → Gp → R U} (o : Op2 K r g) {ρ : List Addr} {G : Gp} {H : Hp} {x y : U} {v w : V} {env : Ev} {σ : St} {D : Ends} {k : U → Gp → SR} (S : Sim K ρ G H) (e : REq K ρ H env σ) (rx : RU K ρ H x v) (ry : RU K ρ H y w)
    (h : PostS K ρ H ((g x y G).andThen env k) D W) : r v w H fun z H1 => ∃ ρ1 G1 u, ρ <+: ρ1 ∧ Stb K H H1 ∧ Sim K ρ1 G1 H1 ∧ REq K ρ1 H1 env σ ∧ RU K ρ1 H1 u z ∧ PostS K ρ1 H1 (k u G1) D W := by
  refine o ρ G H x y v w _ (fun c d H' => W c d σ H') S rx ry ?_
  cases q : g x y G with
  | ok a G1 => rw [q] at h; exact fun b ρ1 H1 p s S1 r => ⟨ρ1, G1, a, p, s, S1, e.mono p s, r, h.lift p s⟩
  | exc c fs G1 => rw [q] at h; exact fun d vfs ρ' H' p s S1 q1 q2 => h σ d vfs ρ' H' p s S1 (e.mono p s) q1 q2
  | bad => rw [q] at h; exact h
section
variable {X : Cx} {Z : ZZ X.K} {W : WX} {o i e : Expr} {fo fi f : Ev → Gp → R U} {pos : Pos}
theorem fsaug {n : Nat} {x : Str} {op : Operator} {r : R2} {g : U → U → Gp → R U} {pos' : Pos} (og : Op2 (kz X Z) r g) (ho : OpR X (inplaceOp op) r) (hN : X.N.Nodup) (hi : X.N[n]? = some x) (hx : Loc X.env.scope x) (he : FE X Z W e f)
    (hf : X.fn x = true ∨ X.env.scope.names.lookup x = some .local := by first | exact .inl rfl | exact .inr rfl | assumption) : FS X Z W (.AugAssign (.Name x pos') op e pos) (sAug n g f) := by
  refine PSimp (ps_aug (ti := r) hN hi hx he (fun pins s σ H x y v u Q I rx ry h => ho pins s σ H x y v u Q I rx ry h) hf) fun D σ H ⟨ρ, G, env, S, e, h⟩ => ?_
  have h : PostS (kz X Z) ρ H ((eVar n env G).andThen env fun x G0 => (f env G0).andThen env fun y G1 => (g x y G1).andThen env fun z G2 => .nx (env.set n (some z)) G2) D W := h
  cases q : env[n]? with
  | none => simp only [eVar, q] at h; exact h.elim
  | some ox =>
    cases ox with
    | none => simp only [eVar, q] at h; exact h.elim
    | some u =>
      simp only [eVar, q] at h
      obtain ⟨v, e1, rv⟩ := e.get q
      refine ⟨v, e1, ?_⟩
      refine tG_mono (stepS S e h) fun w H1 ⟨ρ1, G1, y, p1, s1, S1, ee1, r1, h1⟩ => ?_
      have z := opS og S1 ee1 (rv.mono p1 s1) r1 h1
      refine og ρ1 G1 H1 u y v w _ (fun c d H' => W c d σ H') S1 (rv.mono p1 s1) r1 ?_
      cases q2 : g u y G1 with
      | ok a G2 => rw [q2] at h1; exact fun b ρ2 H2 p2 s2 S2 r2 => h1 _ ρ2 H2 p2 s2 S2 ((ee1.mono p2 s2).set r2 n)
      | exc c fs G2 => rw [q2] at h1; exact fun d vfs ρ' H' p s S1 z1 z2 => h1 σ d vfs ρ' H' p s S1 (ee1.mono p s) z1 z2
      | bad => rw [q2] at h1; exact h1
theorem fsaugAdd {n : Nat} {x : Str} {pos' : Pos} (hN : X.N.Nodup) (hi : X.N[n]? = some x) (hx : Loc X.env.scope x) (he : FE X Z W e f)
    (hf : X.fn x = true ∨ X.env.scope.names.lookup x = some .local := by first | exact .inl rfl | exact .inr rfl | assumption) : FS X Z W (.AugAssign (.Name x pos') .Add e pos) (sAug n (fun x y G => match x, y with
      | .int i, .int j => .ok (.int (i + j)) G
      | _, _ => .bad) f) := fsaug (r := rI0 fun i j => .int (i + j)) (fun ρ G H x y v w Q E S rx ry h => by
    cases rx with
    | int i =>
      cases ry with
      | int j => exact ⟨i, j, rfl, rfl, h.end_ S (.int _)⟩
      | _ => exact h.elim
    | _ => cases ry <;> exact h.elim) iop_add hN hi hx he hf
theorem fsaugSub {n : Nat} {x : Str} {pos' : Pos} (hN : X.N.Nodup) (hi : X.N[n]? = some x) (hx : Loc X.env.scope x) (he : FE X Z W e f)
    (hf : X.fn x = true ∨ X.env.scope.names.lookup x = some .local := by first | exact .inl rfl | exact .inr rfl | assumption) : FS X Z W (.AugAssign (.Name x pos') .Sub e pos) (sAug n gSub f) := fsaug o2Sub iop_sub hN hi hx he hf
end

/-! ### calls of built-ins by values -/
def OpN (K : KZ) (r : List V → Hp → VK → Prop) (g : List U → Gp → R U) : Prop := ∀ ρ G H us vs Q E, Sim K ρ G H → RUs K ρ H us vs → Post K (RU K) ρ H (g us G) Q E → r vs H Q
def eCall (g : List U → Gp → R U) (fa : Ev → Gp → R (List U)) : Ev → Gp → R U := fun env G => (fa env G).bind g
section
variable {X : Cx} {Z : ZZ X.K} {W : WX} {x : Str} {p pos : Pos} {e : Expr} {es : List Expr} {fa : Ev → Gp → R (List U)} {g : List U → Gp → R U} {r : List V → Hp → VK → Prop} {id T : String}
theorem tCB_of {K : KZ} {W : WX} (o : OpN K r g) (σ : St) (H : Hp) (Q : VK) (h : tF K W (eCall g fa) σ H Q) : tCB r (taF K W fa) σ H Q := by
  obtain ⟨ρ, G, env, S, e, h⟩ := h
  exact tG_mono (step (rel := RUs K) S e h) fun v H1 ⟨ρ1, G1, x, p1, s1, S1, e1, r1, h1⟩ => o _ _ _ _ _ _ _ S1 r1 h1
theorem fcallB (o : OpN (kz X Z) r g) (hc : CallR X (.builtin id) r) (hg : Gl X x) (hm : X.mg x = none) (hv : bootBuiltins x = some (.builtin id)) (ha : FA X Z W (e :: es) fa) (hn : x ≠ "__name__" := by decide) (hdb : (x == ("__debug__" : Str)) = false := by decide)
    (he : starEach (e :: es) X.env = (false, eval e X.env) :: starEach es X.env := by rfl) (hpl : (backTo pos (starEach es X.env)).any (·.1) = false := by rfl) : FE X Z W (.Call (.Name x p) (e :: es) [] pos) (eCall g fa) := PEimp (pe_callB hc hg hm hv ha hn hdb he hpl) (tCB_of o)
theorem fcallTy (o : OpN (kz X Z) r g) (hc : CallR X (.type T) r) (hg : Gl X x) (hm : X.mg x = none) (hv : bootBuiltins x = some (.type T)) (ha : FA X Z W (e :: es) fa) (hn : x ≠ "__name__" := by decide) (hdb : (x == ("__debug__" : Str)) = false := by decide)
    (he : starEach (e :: es) X.env = (false, eval e X.env) :: starEach es X.env := by rfl) (hpl : (backTo pos (starEach es X.env)).any (·.1) = false := by rfl) : FE X Z W (.Call (.Name x p) (e :: es) [] pos) (eCall g fa) := PEimp (pe_callTy hc hg hm hv ha hn hdb he hpl) (tCB_of o)
end
/-! len -/
def bLen (us : List U) (G : Gp) : R U := match us with
  | [.str z] => if z.length ≤ 16777216 then .ok (.int z.length) G else .bad
  | [u] => match seqU G u with
    | some xs => .ok (.int xs.length) G
    | none => .bad
  | _ => .bad
def rLenA (K : PySem.W.Frag) : List V → Hp → VK → Prop := fun xs H Q => ∃ x n, xs = [x] ∧ LenV K x H n ∧ Q (.int n) H
theorem oLen {K : KZ} : OpN K (rLenA K.K) bLen := by
  intro ρ G H us vs Q E S r h
  cases r with
  | nil => exact h.elim
  | @cons x v xs vs hx ht =>
    cases ht with
    | cons _ _ => cases x <;> exact h.elim
    | nil =>
      have sq : ∀ ys, seqU G x = some ys → bLen [x] G = .ok (.int ys.length) G → rLenA K.K [v] H Q := by
        intro ys hs hg
        rw [hg] at h
        obtain ⟨p, ws, rfl, hq, hr⟩ := seqU_ok S hx hs
        refine ⟨.ref p, ws.length, rfl, ?_, by rw [← hr.len]; exact h.end_ S (.int _)⟩
        rcases hq with hq | hq
        · exact .inl ⟨ws, hq, rfl⟩
        · exact .inr ⟨ws, hq, rfl⟩
      cases hx with
      | str z =>
        unfold bLen at h
        simp only at h
        by_cases hl : z.length ≤ 16777216
        · rw [if_pos hl] at h
          exact ⟨.str z, z.length, rfl, ⟨by rw [line_eq]; exact hl, rfl⟩, h.end_ S (.int _)⟩
        · rw [if_neg hl] at h; exact h.elim
      | @tup ys _ _ _ _ => exact sq ys rfl rfl
      | @rl ys _ _ _ _ => exact sq ys rfl rfl
      | @wt ys _ _ _ _ => exact sq ys rfl rfl
      | @ref l a ha =>
        cases q : seqU G (.ref l) with
        | none => unfold bLen at h; simp only [q] at h; exact h.elim
        | some ys => exact sq ys q (by unfold bLen; simp only [q])
      | _ => exact h.elim
/-! int, abs, max, min of two ints; tuple, list -/
def bInt (us : List U) (G : Gp) : R U := match us with
  | [.int i] => .ok (.int i) G
  | [.bl k] => .ok (.int (if k = true then 1 else 0)) G
  | _ => .bad
def bAbs (us : List U) (G : Gp) : R U := match us with
  | [.int i] => .ok (.int (if i < 0 then -i else i)) G
  | _ => .bad
def bMax2 (us : List U) (G : Gp) : R U := match us with
  | [.int i, .int j] => .ok (.int (if j > i then j else i)) G
  | _ => .bad
def bMin2 (us : List U) (G : Gp) : R U := match us with
  | [.int i, .int j] => .ok (.int (if j < i then j else i)) G
  | _ => .bad
def bTuple (us : List U) (G : Gp) : R U := match us with
  | [.wt _] => .bad
  | [u] => match seqU G u with
    | some xs => .ok (.tup xs) G
    | none => .bad
  | _ => .bad
def bList (us : List U) (G : Gp) : R U := match us with
  | [u] => match seqU G u with
    | some xs => .ok (.ref G.length) (G ++ [.lst xs])
    | none => .bad
  | _ => .bad
section
variable {K : KZ}
theorem oInt : OpN K (fun xs H Q => (∃ i, xs = [.int i] ∧ Q (.int i) H) ∨ ∃ k, xs = [.bl k] ∧ Q (.int (if k then 1 else 0)) H) bInt := by
  intro ρ G H us vs Q E S r h
  unfold bInt at h
  split at h
  · obtain ⟨v, rfl, rv⟩ := r.one
    cases rv
    exact .inl ⟨_, rfl, h.end_ S (.int _)⟩
  · obtain ⟨v, rfl, rv⟩ := r.one
    cases rv
    exact .inr ⟨_, rfl, h.end_ S (.int _)⟩
  · exact h.elim
theorem oAbs : OpN K (fun xs H Q => ∃ i, xs = [.int i] ∧ Q (.int (if i < 0 then -i else i)) H) bAbs := by
  intro ρ G H us vs Q E S r h
  unfold bAbs at h
  split at h
  · obtain ⟨v, rfl, rv⟩ := r.one
    cases rv
    exact ⟨_, rfl, h.end_ S (.int _)⟩
  · exact h.elim
theorem oMax2 : OpN K (fun xs H Q => ∃ i j, xs = [.int i, .int j] ∧ Q (.int (if j > i then j else i)) H) bMax2 := by
  intro ρ G H us vs Q E S r h
  unfold bMax2 at h
  split at h
  · obtain ⟨v, w, rfl, rv, rw'⟩ := r.two
    cases rv
    cases rw'
    exact ⟨_, _, rfl, h.end_ S (.int _)⟩
  · exact h.elim
theorem oMin2 : OpN K (fun xs H Q => ∃ i j, xs = [.int i, .int j] ∧ Q (.int (if j < i then j else i)) H) bMin2 := by
  intro ρ G H us vs Q E S r h
  unfold bMin2 at h
  split at h
  · obtain ⟨v, w, rfl, rv, rw'⟩ := r.two
    cases rv
    cases rw'
    exact ⟨_, _, rfl, h.end_ S (.int _)⟩
  · exact h.elim
theorem oTuple : OpN K (fun xs H Q => ∃ p ys, xs = [.ref p] ∧ ((SqL K.K H p ys ∧ ∀ l, H l = none → Q (.ref l) (upd H l (.tup ys))) ∨ (SqT K.K H p ys ∧ Q (.ref p) H))) bTuple := by
  intro ρ G H us vs Q E S r h
  unfold bTuple at h
  split at h
  · exact h.elim
  · rename_i u hu
    obtain ⟨v, rfl, rv⟩ := r.one
    cases q : seqU G u with
    | none => rw [q] at h; exact h.elim
    | some xs =>
      rw [q] at h
      have h : Post K (RU K) ρ H (.ok (.tup xs) G) Q E := h
      cases rv with
      | @wt ys ws a ha hr => exact absurd rfl (hu ys)
      | @tup ys ws a ha hr => cases q; exact ⟨a, ws, rfl, .inr ⟨ha.sq, h.end_ S (.tup ha hr)⟩⟩
      | @rl ys ws a ha hr => cases q; exact ⟨a, ws, rfl, .inl ⟨ha.sq, newTup S hr h⟩⟩
      | @ref l a ha =>
        unfold seqU at q
        simp only at q
        cases e1 : G[l]? with
        | none => rw [e1] at q; exact nomatch q
        | some o =>
          rw [e1] at q
          cases o with
          | lst ys =>
            cases q
            obtain ⟨ws, e2, r2⟩ := S.list ha e1
            exact ⟨a, ws, rfl, .inl ⟨SqL.of e2, newTup S r2 h⟩⟩
          | _ => exact nomatch q
      | _ => exact nomatch q
  · exact h.elim
theorem oList : OpN K (fun xs H Q => ∃ p ys, xs = [.ref p] ∧ (SqL K.K H p ys ∨ SqT K.K H p ys) ∧ ∀ l, H l = none → Q (.ref l) (upd H l (.lst ys))) bList := by
  intro ρ G H us vs Q E S r h
  unfold bList at h
  split at h
  · rename_i u
    obtain ⟨v, rfl, rv⟩ := r.one
    cases q : seqU G u with
    | none => rw [q] at h; exact h.elim
    | some xs =>
      rw [q] at h
      obtain ⟨p, ws, rfl, hq, hr⟩ := seqU_ok S rv q
      exact ⟨p, ws, rfl, hq, newLst S hr h⟩
  · exact h.elim
end
/-! ### methods of lists -/
def mAppend (x : U) (us : List U) (G : Gp) : R U := match x, us with
  | .ref l, [y] => match G[l]? with
    | some (.lst xs) => if xs.length < 16777216 then .ok .non (G.set l (.lst (xs ++ [y]))) else .bad
    | _ => .bad
  | _, _ => .bad
def mPop (x : U) (us : List U) (G : Gp) : R U := match x, us with
  | .ref l, [] => match G[l]? with
    | some (.lst xs) => match xs[xs.length - 1]? with
      | some y => .ok y (G.set l (.lst xs.dropLast))
      | none => .bad
    | _ => .bad
  | _, _ => .bad
def mPopAt (x : U) (us : List U) (G : Gp) : R U := match x, us with
  | .ref l, [.int i] => if -(2 ^ 63) ≤ i ∧ i < 2 ^ 63 then match G[l]? with
    | some (.lst xs) => match ixN xs.length i with
      | some k => match xs[k]? with
        | some y => .ok y (G.set l (.lst (xs.eraseIdx k)))
        | none => .bad
      | none => .bad
    | _ => .bad
    else .bad
  | _, _ => .bad
def OpM (K : KZ) (r : V → List V → Hp → VK → Prop) (g : U → List U → Gp → R U) : Prop := ∀ ρ G H x v us vs Q E, Sim K ρ G H → RU K ρ H x v → RUs K ρ H us vs → Post K (RU K) ρ H (g x us G) Q E → r v vs H Q
def isLst (u : U) (G : Gp) : Bool := match u with
  | .ref l => match G[l]? with
    | some (.lst _) => true
    | _ => false
  | _ => false
def eMeth (g : U → List U → Gp → R U) (fo : Ev → Gp → R U) (fa : Ev → Gp → R (List U)) : Ev → Gp → R U := fun env G => (fo env G).bind fun o G1 => if isLst o G1 = true then (fa env G1).bind fun us G2 => g o us G2 else .bad
section
variable {K : KZ}
theorem isLst_ok {ρ : List Addr} {G : Gp} {H : Hp} {u : U} {v : V} (S : Sim K ρ G H) (r : RU K ρ H u v) (h : isLst u G = true) : tyV K.K "list" v H := by
  cases r with
  | @ref l a ha =>
    unfold isLst at h
    simp only at h
    cases q : G[l]? with
    | none => rw [q] at h; exact nomatch h
    | some o =>
      rw [q] at h
      cases o with
      | lst xs =>
        obtain ⟨vs, e, _⟩ := S.list ha q
        exact .inl ⟨rfl, vs, SqL.of e⟩
      | _ => exact nomatch h
  | _ => exact nomatch h
theorem RUs.zero {ρ : List Addr} {H : Hp} {vs : List V} (r : RUs K ρ H [] vs) : vs = [] := by cases r; rfl
theorem RUs.dropLast {ρ : List Addr} {H : Hp} : ∀ {us : List U} {vs : List V}, RUs K ρ H us vs → RUs K ρ H us.dropLast vs.dropLast
  | _, _, .nil => .nil
  | _, _, .cons h .nil => .nil
  | _, _, .cons h (.cons h2 t) => .cons h (RUs.dropLast (.cons h2 t))
theorem RUs.eraseIdx {ρ : List Addr} {H : Hp} : ∀ {us : List U} {vs : List V}, RUs K ρ H us vs → ∀ i : Nat, RUs K ρ H (us.eraseIdx i) (vs.eraseIdx i)
  | _, _, .nil, _ => .nil
  | _, _, .cons _ t, 0 => t
  | _, _, .cons h t, i + 1 => .cons h (t.eraseIdx i)
theorem updEnd {ρ : List Addr} {G : Gp} {H : Hp} {l : Nat} {a : Addr} {xs ys : List U} {vs ws : List V} {u : U} {v : V} {Q : VK} {E : XK} (S : Sim K ρ G H) (ha : ρ[l]? = some a) (e : H a = some (.lst vs)) (r : RUs K ρ H ys ws) (ru : RU K ρ H u v)
    (h : Post K (RU K) ρ H (.ok u (G.set l (.lst ys))) Q E) : Q v (upd H a (.lst ws)) := by
  obtain ⟨S', st⟩ := S.setList (xs := xs) ha e r
  exact h v ρ _ pre_refl st S' (ru.mono pre_refl st)
theorem oAppend : OpM K rAppend mAppend := by
  intro ρ G H x v us vs Q E S rx rs h
  unfold mAppend at h
  split at h
  · rename_i l y
    cases rx with
    | @ref _ a ha =>
      obtain ⟨w, rfl, rw'⟩ := rs.one
      cases q : G[l]? with
      | none => rw [q] at h; exact h.elim
      | some o =>
        rw [q] at h
        cases o with
        | lst xs =>
          obtain ⟨ws, e, r⟩ := S.list ha q
          simp only at h
          by_cases hl : xs.length < 16777216
          · rw [if_pos hl] at h
            exact ⟨a, ws, w, rfl, rfl, e, by rw [← r.len, line_eq]; exact hl, updEnd (xs := xs) S ha e (r.append (.cons rw' .nil)) .non h⟩
          · rw [if_neg hl] at h; exact h.elim
        | _ => exact h.elim
  · exact h.elim
theorem oPop : OpM K rPop mPop := by
  intro ρ G H x v us vs Q E S rx rs h
  unfold mPop at h
  split at h
  · rename_i l
    cases rx with
    | @ref _ a ha =>
      cases rs.zero
      cases q : G[l]? with
      | none => rw [q] at h; exact h.elim
      | some o =>
        rw [q] at h
        cases o with
        | lst xs =>
          obtain ⟨ws, e, r⟩ := S.list ha q
          simp only at h
          cases q2 : xs[xs.length - 1]? with
          | none => rw [q2] at h; exact h.elim
          | some y =>
            rw [q2] at h
            obtain ⟨w, e2, rw'⟩ := r.getU q2
            exact ⟨a, ws, w, rfl, rfl, e, by rw [← r.len]; exact e2, updEnd (xs := xs) S ha e r.dropLast rw' h⟩
        | _ => exact h.elim
  · exact h.elim
theorem oPopAt : OpM K rPopAt mPopAt := by
  intro ρ G H x v us vs Q E S rx rs h
  unfold mPopAt at h
  split at h
  · rename_i l i
    by_cases hi : -(2 ^ 63) ≤ i ∧ i < 2 ^ 63
    · rw [if_pos hi] at h
      cases rx with
      | @ref _ a ha =>
        obtain ⟨w0, rfl, rw0⟩ := rs.one
        cases rw0
        cases q : G[l]? with
        | none => rw [q] at h; exact h.elim
        | some o =>
          rw [q] at h
          cases o with
          | lst xs =>
            obtain ⟨ws, e, r⟩ := S.list ha q
            simp only at h
            cases q1 : ixN xs.length i with
            | none => rw [q1] at h; exact h.elim
            | some k =>
              rw [q1] at h
              simp only at h
              cases q2 : xs[k]? with
              | none => rw [q2] at h; exact h.elim
              | some y =>
                rw [q2] at h
                obtain ⟨w, e2, rw'⟩ := r.getU q2
                obtain ⟨h1, h2, h3, h4⟩ := ixN_seq q1
                exact ⟨a, ws, i, k, w, rfl, rfl, e, hi.1, hi.2, by rw [← r.len]; exact h1, e2, updEnd (xs := xs) S ha e (r.eraseIdx k) rw' h⟩
          | _ => exact h.elim
    · rw [if_neg hi] at h; exact h.elim
  · exact h.elim
end
section
variable {X : Cx} {Z : ZZ X.K} {W : WX} {o e : Expr} {es : List Expr} {fo : Ev → Gp → R U} {fa : Ev → Gp → R (List U)} {g : U → List U → Gp → R U} {r : V → List V → Hp → VK → Prop} {id : String} {name : Str} {apos cpos : Pos}
theorem fmeth (om : OpM (kz X Z) r g) (slot : Slot "list" name id) (hty : typeOf (.builtin id) = pure (.type "method_descriptor")) (hm : MtR X id r) (ho : FE X Z W o fo) (ha : FA X Z W (e :: es) fa)
    (hbase : attributeBase o name X.env (eval o X.env) = eval o X.env := by rfl)
    (hfew : ((backTo cpos (starEach (e :: es) X.env)).all (fun x => !x.1) && (backToKw cpos (keywordEach [] X.env)).all (fun x => x.1.isSome)
      && decide ((e :: es).length + ([] : List Keyword).length + (if ([] : List Keyword).isEmpty then 0 else 1) < 30)) = true := by rfl)
    (hline : (apos.endLine == cpos.line) = true := by rfl) (hs : starEach (e :: es) X.env = (false, eval e X.env) :: starEach es X.env := by rfl) (hplain : (backTo cpos (starEach es X.env)).any (·.1) = false := by rfl) :
    FE X Z W (.Call (.Attribute o name apos) (e :: es) [] cpos) (eMeth g fo fa) := by
  refine PEimp (pe_bm PySem.F.plainAttrs_list slot hty hm ho ha hbase hfew hline hs hplain) fun σ H Q ⟨ρ, G, env, S, e, h⟩ => ?_
  refine tG_mono (step S e h) fun v H1 ⟨ρ1, G1, x, p1, s1, S1, e1, r1, h1⟩ => ?_
  by_cases hl : isLst x G1 = true
  · rw [if_pos hl] at h1
    exact ⟨isLst_ok S1 r1 hl, tG_mono (step (rel := RUs (kz X Z)) S1 e1 h1) fun w H2 ⟨ρ2, G2, y, p2, s2, S2, e2, r2, h2⟩ => om _ _ _ _ _ _ _ _ _ S2 (r1.mono p2 s2) r2 h2⟩
  · rw [if_neg hl] at h1; exact h1.elim
theorem fmeth0 (om : OpM (kz X Z) r g) (slot : Slot "list" name id) (hty : typeOf (.builtin id) = pure (.type "method_descriptor")) (hm : MtR X id r) (ho : FE X Z W o fo)
    (hbase : attributeBase o name X.env (eval o X.env) = eval o X.env := by rfl) (hline : (apos.endLine == cpos.line) = true := by rfl) : FE X Z W (.Call (.Attribute o name apos) [] [] cpos) (eMeth g fo aNil) := by
  refine PEimp (pe_bm0 PySem.F.plainAttrs_list slot hty hm ho hbase hline) fun σ H Q ⟨ρ, G, env, S, e, h⟩ => ?_
  refine tG_mono (step S e h) fun v H1 ⟨ρ1, G1, x, p1, s1, S1, e1, r1, h1⟩ => ?_
  by_cases hl : isLst x G1 = true
  · rw [if_pos hl] at h1
    exact ⟨isLst_ok S1 r1 hl, om _ _ _ _ _ _ _ _ _ S1 r1 .nil h1⟩
  · rw [if_neg hl] at h1; exact h1.elim
end
end FL

set_option Elab.async false
set_option linter.all false
set_option maxRecDepth 100000
set_option maxHeartbeats 4000000
set_option autoImplicit false
namespace FL
open PySem PySem.Spec L2

/-! ### list comprehensions -/
def compN (nth : Nat → Gp → Option (Option U)) (gf : U → Ev → Gp → R Ev) (ft : Ev → Gp → R Bool) (fe : Ev → Gp → R U) (l : Nat) (env0 : Ev) : Nat → Nat → Gp → R U
  | 0, _, _ => .bad
  | n + 1, i, G => match nth i G with
    | none => .bad
    | some none => .ok (.ref l) G
    | some (some u) => (gf u env0 G).bindN fun env1 G1 => (ft env1 G1).bindN fun b G2 => if b = true then (fe env1 G2).bindN fun y G3 => match G3[l]? with
        | some (.lst acc) => if acc.length < 16777216 then compN nth gf ft fe l env0 n (i + 1) (G3.set l (.lst (acc ++ [y]))) else .bad
        | _ => .bad
      else compN nth gf ft fe l env0 n (i + 1) G2
def compL (gf : U → Ev → Gp → R Ev) (ft : Ev → Gp → R Bool) (fe : Ev → Gp → R U) (l : Nat) (env0 : Ev) : List U → Gp → R U
  | [], G => .ok (.ref l) G
  | u :: us, G => (gf u env0 G).bindN fun env1 G1 => (ft env1 G1).bindN fun b G2 => if b = true then (fe env1 G2).bindN fun y G3 => match G3[l]? with
        | some (.lst acc) => if acc.length < 16777216 then compL gf ft fe l env0 us (G3.set l (.lst (acc ++ [y]))) else .bad
        | _ => .bad
      else compL gf ft fe l env0 us G2
def wipeE (env : Ev) : List Nat → Ev
  | [] => env
  | v :: vs => (wipeE env vs).set v none
def eComp (own : List Nat) (fi : Ev → Gp → R Src) (gf : U → Ev → Gp → R Ev) (ft : Ev → Gp → R Bool) (fe : Ev → Gp → R U) : Ev → Gp → R U := fun env G => (fi env G).bind fun src G1 => match src with
  | .items xs => compL gf ft fe G1.length (wipeE env own) xs (G1 ++ [.lst []])
  | .live n nth => compN nth gf ft fe G1.length (wipeE env own) n 0 (G1 ++ [.lst []])
theorem compL_drop {gf : U → Ev → Gp → R Ev} {ft : Ev → Gp → R Bool} {fe : Ev → Gp → R U} {l : Nat} {env0 : Ev} {xs : List U} : ∀ (m i : Nat) (G : Gp), m = xs.length + 1 - i → i ≤ xs.length → compN (fun i _ => some xs[i]?) gf ft fe l env0 m i G = compL gf ft fe l env0 (xs.drop i) G := by
  intro m
  induction m with
  | zero => intro i G h1 h2; omega
  | succ m ih =>
    intro i G h1 h2
    by_cases hi : i < xs.length
    · have e : xs.drop i = xs[i] :: xs.drop (i + 1) := List.drop_eq_getElem_cons hi
      rw [e]
      have ih' : ∀ G, compN (fun i _ => some xs[i]?) gf ft fe l env0 m (i + 1) G = compL gf ft fe l env0 (xs.drop (i + 1)) G := fun G => ih (i + 1) G (by omega) hi
      unfold compN compL
      simp only [List.getElem?_eq_getElem hi, ih']
    · have e : i = xs.length := by omega
      subst e
      rw [List.drop_length]
      unfold compN compL
      simp only [List.getElem?_eq_none (Nat.le_refl _)]
theorem eComp_run {src : Src} {gf : U → Ev → Gp → R Ev} {ft : Ev → Gp → R Bool} {fe : Ev → Gp → R U} {l : Nat} {env : Ev} {G1 : Gp} : (match src with
  | .items xs => compL gf ft fe l env xs G1
  | .live n nth => compN nth gf ft fe l env n 0 G1) = compN src.nth gf ft fe l env src.fuel 0 G1 := by
  cases src with
  | items xs =>
    show compL gf ft fe l env xs G1 = compN (fun i _ => some xs[i]?) gf ft fe l env (xs.length + 1) 0 G1
    rw [compL_drop (xs.length + 1) 0 G1 (by omega) (Nat.zero_le _)]
    rfl
  | live n nth => rfl
/-- no exception is let out -/
def W0 : WX := fun _ _ _ _ => False
section
variable {K : KZ} {ρ : List Addr} {H : Hp}
theorem REq.wipe (hZ : K.Z.er = none) {env : Ev} {σ : St} (e : REq K ρ H env σ) : ∀ vs : List Nat, REq K ρ H (wipeE env vs) (wipe σ vs)
  | [] => e
  | v :: vs => (REq.wipe hZ e vs).unset hZ v
theorem wipe_set {σ : St} {i : Nat} {x : Option V} : ∀ {vs : List Nat}, i ∈ vs → wipe (σ.set i x) vs = wipe σ vs
  | v :: vs, h => by
    by_cases hi : i ∈ vs
    · show (wipe (σ.set i x) vs).set v none = (wipe σ vs).set v none
      rw [wipe_set hi]
    · have hv : v = i := by
        rcases List.mem_cons.mp h with e | e
        · exact e.symm
        · exact absurd e hi
      subst hv
      have out : ∀ (ws : List Nat), v ∉ ws → wipe (σ.set v x) ws = (wipe σ ws).set v x := by
        intro ws
        induction ws with
        | nil => intro _; rfl
        | cons w ws ih =>
          intro hw
          show (wipe (σ.set v x) ws).set w none = ((wipe σ ws).set w none).set v x
          rw [ih fun z => hw (List.mem_cons_of_mem _ z), List.set_comm _ _ (fun z => hw (by rw [z]; exact List.mem_cons_self))]
      show (wipe (σ.set v x) vs).set v none = (wipe σ vs).set v none
      rw [out vs hi, List.set_set]
end
/-- a target whose stores lie among vs -/
def tgW (K : KZ) (gf : U → Ev → Gp → R Ev) (vs : List Nat) : TG := fun v σ H Q => ∃ ρ G env u, Sim K ρ G H ∧ REq K ρ H env σ ∧ RU K ρ H u v ∧ match gf u env G with
  | .ok env' G' => ∀ σ' ρ' H', ρ <+: ρ' → Stb K H H' → Sim K ρ' G' H' → REq K ρ' H' env' σ' → wipe σ' vs = wipe σ vs → Q σ' H'
  | _ => False
def tgWs (K : KZ) (gs : List U → Ev → Gp → R Ev) (vs : List Nat) : TGs := fun ws σ H Q => ∃ ρ G env us, Sim K ρ G H ∧ REq K ρ H env σ ∧ RUs K ρ H us ws ∧ match gs us env G with
  | .ok env' G' => ∀ σ' ρ' H', ρ <+: ρ' → Stb K H H' → Sim K ρ' G' H' → REq K ρ' H' env' σ' → wipe σ' vs = wipe σ vs → Q σ' H'
  | _ => False
abbrev FGw (X : Cx) (Z : ZZ X.K) (e : Expr) (gf : U → Ev → Gp → R Ev) (vs : List Nat) : Prop := PG X e (tgW (kz X Z) gf vs)
abbrev FGws (X : Cx) (Z : ZZ X.K) (es : List Expr) (gs : List U → Ev → Gp → R Ev) (vs : List Nat) : Prop := PGs X es (tgWs (kz X Z) gs vs)
section
variable {X : Cx} {Z : ZZ X.K} {W : WX} {e : Expr} {es : List Expr} {pos : Pos} {vs : List Nat}
theorem fwname {i : Nat} {x : Str} (hN : X.N.Nodup) (hi : X.N[i]? = some x) (hx : Loc X.env.scope x) (hv : i ∈ vs := by decide) (hf : X.fn x = true ∨ X.env.scope.names.lookup x = some .local := by first | exact .inl rfl | exact .inr rfl | assumption) : FGw X Z (.Name x pos) (gNm i) vs :=
  PGimp (pg_name hN hi hx hf) fun v σ H Q ⟨ρ, G, env, u, S, e, r, h⟩ => h _ ρ H pre_refl Stb.refl S (e.set r i) (wipe_set hv)
theorem fwnil : FGws X Z [] gNil vs := by
  refine PGsimp pgs_nil fun ws σ H Q ⟨ρ, G, env, us, S, e, r, h⟩ => ?_
  cases r with
  | nil => exact ⟨rfl, h _ ρ H pre_refl Stb.refl S e rfl⟩
  | cons _ _ => exact h.elim
theorem fwcons {g : U → Ev → Gp → R Ev} {gs : List U → Ev → Gp → R Ev} (h1 : FGw X Z e g vs) (h2 : FGws X Z es gs vs) (hs : (assignEach (e :: es) X.env).map (·.2) = assign e X.env :: (assignEach es X.env).map (·.2) := by rfl) : FGws X Z (e :: es) (gCons g gs) vs := by
  refine PGsimp (pgs_cons h1 h2 hs) fun ws σ H Q ⟨ρ, G, env, us, S, e, r, h⟩ => ?_
  cases r with
  | nil => exact h.elim
  | @cons x v xs ws hx hr =>
    refine ⟨v, ws, rfl, ρ, G, env, x, S, e, hx, ?_⟩
    have h : match (g x env G).bind fun env' G' => gs xs env' G' with
      | .ok env' G' => ∀ σ' ρ' H', ρ <+: ρ' → Stb (kz X Z) H H' → Sim (kz X Z) ρ' G' H' → REq (kz X Z) ρ' H' env' σ' → wipe σ' vs = wipe σ vs → Q σ' H'
      | _ => False := h
    cases q : g x env G with
    | ok env' G' =>
      rw [q] at h
      intro σ1 ρ1 H1 p1 s1 S1 e1 w1
      refine ⟨ρ1, G', env', xs, S1, e1, hr.mono p1 s1, ?_⟩
      have h : match gs xs env' G' with
        | .ok env' G' => ∀ σ' ρ' H', ρ <+: ρ' → Stb (kz X Z) H H' → Sim (kz X Z) ρ' G' H' → REq (kz X Z) ρ' H' env' σ' → wipe σ' vs = wipe σ vs → Q σ' H'
        | _ => False := h
      cases q2 : gs xs env' G' with
      | ok env2 G2 => rw [q2] at h; exact fun σ' ρ' H' p s S' e' w => h σ' ρ' H' (p1.trans p) (s1.trans s) S' e' (w.trans w1)
      | exc c fs G2 => rw [q2] at h; exact h.elim
      | bad => rw [q2] at h; exact h.elim
    | exc c fs G' => rw [q] at h; exact h.elim
    | bad => rw [q] at h; exact h.elim
theorem fwtup {k n : Nat} {gs : List U → Ev → Gp → R Ev} (hc : X.calm = true) (h : FGws X Z es gs vs) (hn : (assignEach es X.env).length = n := by rfl) (hst : (assignEach es X.env).findIdx? (·.1) = none := by rfl) : FGw X Z (.Tuple es k pos) (gTup gs n) vs := by
  refine PGimp (pg_tup hc h hn hst) fun v σ H Q ⟨ρ, G, env, u, S, e, r, h⟩ => ?_
  cases r with
  | @tup xs ws a ht hr =>
    have h : match (if xs.length = n then gs xs env G else .bad : R Ev) with
      | .ok env' G' => ∀ σ' ρ' H', ρ <+: ρ' → Stb (kz X Z) H H' → Sim (kz X Z) ρ' G' H' → REq (kz X Z) ρ' H' env' σ' → wipe σ' vs = wipe σ vs → Q σ' H'
      | _ => False := h
    by_cases hl : xs.length = n
    · rw [if_pos hl] at h
      exact ⟨a, ws, rfl, ht.sq, by rw [← hr.len]; exact hl, ρ, G, env, xs, S, e, hr, h⟩
    · rw [if_neg hl] at h; exact h.elim
  | _ => exact h.elim
/-- the tests of a comprehension -/
abbrev FTs (X : Cx) (Z : ZZ X.K) (ifs : List Expr) (f : Ev → Gp → R Bool) : Prop := PTs X ifs (ttF (kz X Z) W0 f)
theorem PTsimp {ifs : List Expr} {t t' : TT} (h : PTs X ifs t) (i : ∀ σ H Q, t' σ H Q → t σ H Q) : PTs X ifs t' := ⟨fun pins s σ H Q I q => h.run pins s σ H Q I (i σ H Q q)⟩
def tYesB : Ev → Gp → R Bool := fun _ G => .ok true G
theorem ftsnil : FTs X Z [] tYesB := PTsimp pts_nil fun σ H Q ⟨ρ, G, env, S, e, h⟩ => Post.end_ (rel := fun _ _ (a b : Bool) => a = b) h S rfl
theorem ftsone {c : Expr} {f : Ev → Gp → R Bool} (h : FT X Z W0 c f) : FTs X Z [c] f := pts_one h
end
section
variable {X : Cx} {Z : ZZ X.K} {W : WX}
theorem tLc_of (hZ : Z.er = none) {fi : Ev → Gp → R Src} {gf : U → Ev → Gp → R Ev} {ft : Ev → Gp → R Bool} {fe : Ev → Gp → R U} {own : List Nat} (σ : St) (H : Hp) (Q : VK) (h : tF (kz X Z) W (eComp own fi gf ft fe) σ H Q) :
    tLc (tiF (kz X Z) W fi) (tgW (kz X Z) gf own) (ttF (kz X Z) W0 ft) (tF (kz X Z) W0 fe) own σ H Q := by
  obtain ⟨ρ, G, env, S, e, h⟩ := h
  refine ⟨ρ, G, env, S, e, ?_⟩
  unfold eComp at h
  cases q : fi env G with
  | bad => rw [q] at h; exact h
  | exc c fs G1 => rw [q] at h; exact h
  | ok src G1 =>
    rw [q] at h
    have h : Post (kz X Z) (RU (kz X Z)) ρ H (compN src.nth gf ft fe G1.length (wipeE env own) src.fuel 0 (G1 ++ [.lst []])) Q fun c d H' => W c d σ H' := by rw [← eComp_run]; exact h
    intro ρ1 H1 J p1 s1 S1 wk D hD
    have sn : Stb (kz X Z) H1 (upd H1 D (.lst [])) := stb_new hD
    have Sn : Sim (kz X Z) (ρ1 ++ [D]) (G1 ++ [.lst []]) (upd H1 D (.lst [])) := S1.new hD (show RUs (kz X Z) _ _ [] [] from .nil)
    have hl : ∀ ρ2, (ρ1 ++ [D]) <+: ρ2 → ρ2[G1.length]? = some D := fun ρ2 p => pre_get p (by rw [← S1.len]; simp)
    refine ⟨fun i m H2 => ∃ ρ2 G2, (ρ1 ++ [D]) <+: ρ2 ∧ Stb (kz X Z) (upd H1 D (.lst [])) H2 ∧ Sim (kz X Z) ρ2 G2 H2 ∧ Post (kz X Z) (RU (kz X Z)) ρ2 H2 (compN src.nth gf ft fe G1.length (wipeE env own) m i G2) Q fun c d H' => W c d σ H',
      ⟨src.fuel, ρ1 ++ [D], _, pre_refl, Stb.refl, Sn, Post.lift h (p1.trans ⟨[D], rfl⟩) (s1.trans sn)⟩, ?_⟩
    rintro i m H2 ⟨ρ2, G2, p2, s2, S2, h2⟩
    have pp : ρ1 <+: ρ2 := List.IsPrefix.trans ⟨[D], rfl⟩ p2
    have ss : Stb (kz X Z) H1 H2 := sn.trans s2
    cases m with
    | zero => exact h2.elim
    | succ m =>
      have w := wk ρ2 H2 G2 i pp ss S2
      unfold compN at h2
      have en : src.nth i G2 = src.at_ i G2 := rfl
      rw [en] at h2
      cases qn : src.at_ i G2 with
      | none => rw [qn] at h2; exact h2.elim
      | some o =>
        rw [qn] at h2 w
        cases o with
        | none => exact .inl ⟨w, h2.end_ S2 (.ref (hl ρ2 p2))⟩
        | some u =>
          refine .inr ⟨w.1, fun H' => ∃ ρ3 G3, (ρ1 ++ [D]) <+: ρ3 ∧ Stb (kz X Z) (upd H1 D (.lst [])) H' ∧ Sim (kz X Z) ρ3 G3 H' ∧ Post (kz X Z) (RU (kz X Z)) ρ3 H' (compN src.nth gf ft fe G1.length (wipeE env own) m (i + 1) G3) Q fun c d H' => W c d σ H',
            fun H' z => ⟨m, Nat.lt_succ_self m, z⟩, fun x H3 y => ?_⟩
          obtain ⟨s3, S3, rx⟩ := w.2 x H3 y
          have h3 : Post (kz X Z) (RU (kz X Z)) ρ2 H3 ((gf u (wipeE env own) G2).bindN fun env1 G1' => (ft env1 G1').bindN fun b G2' => if b = true then (fe env1 G2').bindN fun y G3 => match G3[G1.length]? with
              | some (.lst acc) => if acc.length < 16777216 then compN src.nth gf ft fe G1.length (wipeE env own) m (i + 1) (G3.set G1.length (.lst (acc ++ [y]))) else .bad
              | _ => .bad
            else compN src.nth gf ft fe G1.length (wipeE env own) m (i + 1) G2') Q fun c d H' => W c d σ H' := Post.lift h2 pre_refl s3
          have ew : REq (kz X Z) ρ2 H3 (wipeE env own) (wipe σ own) := ((e.mono (p1.trans pp) ((s1.trans ss).trans s3))).wipe hZ own
          refine ⟨ρ2, G2, wipeE env own, u, S3, ew, rx, ?_⟩
          cases qg : gf u (wipeE env own) G2 with
          | bad => rw [qg] at h3; exact h3
          | exc c fs G' => rw [qg] at h3; exact h3
          | ok env3 G3 =>
            rw [qg] at h3
            intro σ4 ρ4 H4 p4 s4 S4 e4 w4
            have idem : ∀ τ : St, wipe (wipe τ own) own = wipe τ own := by
              intro τ
              have hh : ∀ (ws : List Nat), (∀ v ∈ ws, v ∈ own) → wipe (wipe τ ws) own = wipe τ own := by
                intro ws
                induction ws with
                | nil => intro _; rfl
                | cons v ws ih =>
                  intro hv
                  show wipe ((wipe τ ws).set v none) own = _
                  rw [wipe_set (hv v List.mem_cons_self)]
                  exact ih fun x hx => hv x (List.mem_cons_of_mem _ hx)
              exact hh own fun _ h => h
            refine ⟨w4.trans (idem σ), ?_⟩
            have h4 : Post (kz X Z) (RU (kz X Z)) ρ4 H4 ((ft env3 G3).bindN fun b G2' => if b = true then (fe env3 G2').bindN fun y G3 => match G3[G1.length]? with
                | some (.lst acc) => if acc.length < 16777216 then compN src.nth gf ft fe G1.length (wipeE env own) m (i + 1) (G3.set G1.length (.lst (acc ++ [y]))) else .bad
                | _ => .bad
              else compN src.nth gf ft fe G1.length (wipeE env own) m (i + 1) G2') Q fun c d H' => W c d σ H' := Post.lift h3 p4 s4
            refine ⟨ρ4, G3, env3, S4, e4, ?_⟩
            cases qt : ft env3 G3 with
            | bad => rw [qt] at h4; exact h4
            | exc c fs G' => rw [qt] at h4; exact h4.elim
            | ok b G5 =>
              rw [qt] at h4
              intro b' ρ5 H5 p5 s5 S5 r5
              have r5 : b = b' := r5
              subst r5
              have h5 : Post (kz X Z) (RU (kz X Z)) ρ5 H5 (if b = true then (fe env3 G5).bindN fun y G3 => match G3[G1.length]? with
                  | some (.lst acc) => if acc.length < 16777216 then compN src.nth gf ft fe G1.length (wipeE env own) m (i + 1) (G3.set G1.length (.lst (acc ++ [y]))) else .bad
                  | _ => .bad
                else compN src.nth gf ft fe G1.length (wipeE env own) m (i + 1) G5) Q fun c d H' => W c d σ H' := Post.lift h4 p5 s5
              cases b with
              | false => exact ⟨ρ5, G5, p2.trans (p4.trans p5), (s2.trans s3).trans (s4.trans s5), S5, h5⟩
              | true =>
                rw [if_pos rfl]
                rw [if_pos rfl] at h5
                refine ⟨ρ5, G5, env3, S5, e4.mono p5 s5, ?_⟩
                cases qe : fe env3 G5 with
                | bad => rw [qe] at h5; exact h5
                | exc c fs G' => rw [qe] at h5; exact h5.elim
                | ok yv G6 =>
                  rw [qe] at h5
                  intro yV ρ6 H6 p6 s6 S6 r6
                  have h6 : Post (kz X Z) (RU (kz X Z)) ρ6 H6 (match G6[G1.length]? with
                    | some (.lst acc) => if acc.length < 16777216 then compN src.nth gf ft fe G1.length (wipeE env own) m (i + 1) (G6.set G1.length (.lst (acc ++ [yv]))) else .bad
                    | _ => .bad) Q fun c d H' => W c d σ H' := Post.lift h5 p6 s6
                  have pq : (ρ1 ++ [D]) <+: ρ6 := ((p2.trans p4).trans p5).trans p6
                  cases ql : G6[G1.length]? with
                  | none => rw [ql] at h6; exact h6.elim
                  | some ob =>
                    rw [ql] at h6
                    cases ob with
                    | lst acc =>
                      simp only at h6
                      by_cases hz : acc.length < 16777216
                      · rw [if_pos hz] at h6
                        obtain ⟨vs, ev, rv⟩ := S6.list (hl ρ6 pq) ql
                        obtain ⟨S7, s7⟩ := S6.setList (xs := acc) (hl ρ6 pq) ev (rv.append (.cons r6 .nil))
                        exact ⟨vs, ev, by rw [← rv.len, line_eq]; exact hz, ρ6, _, pq, (((s2.trans s3).trans s4).trans (s5.trans s6)).trans s7, S7, Post.lift h6 pre_refl s7⟩
                      · rw [if_neg hz] at h6; exact h6.elim
                    | _ => exact h6.elim
theorem fcomp {elt tg iter : Expr} {ifs : List Expr} {scope : Scope} {own : List (Str × Nat)} {pos : Pos} {fi : Ev → Gp → R Src} {gf : U → Ev → Gp → R Ev} {ft : Ev → Gp → R Bool} {fe : Ev → Gp → R U} (hZ : Z.er = none) (hc : X.calm = true) (hN : X.N.Nodup) (hi : FI X Z W tg iter fi) (ok : BlkOk X.N X.env.scope scope own)
    (hg : ∀ (s : Shared) (H : Hp) (C : Addr) (cl : List (Str × Addr)) (fp : List Addr), FGw (X.blk s H scope (compEnvC scope cl C X.env) fp) Z tg gf (own.map (·.2))) (ht : ∀ (s : Shared) (H : Hp) (C : Addr) (cl : List (Str × Addr)) (fp : List Addr), FTs (X.blk s H scope (compEnvC scope cl C X.env) fp) Z ifs ft)
    (he : ∀ (s : Shared) (H : Hp) (C : Addr) (cl : List (Str × Addr)) (fp : List Addr), FE (X.blk s H scope (compEnvC scope cl C X.env) fp) Z W0 elt fe) (hs : ∀ x, foldedSetIterable iter X.env x = pure x := by intro _; rfl) :
    FE X Z W (.ListComp elt [⟨tg, iter, ifs, 0⟩] scope pos) (eComp (own.map (·.2)) fi gf ft fe) := PEimp (pe_lc hc hN hi ok hg ht he hs) (tLc_of hZ)
theorem fsetcomp {i : Nat} {y : Str} {py : Pos} {elt tg iter : Expr} {ifs : List Expr} {scope : Scope} {own : List (Str × Nat)} {pos spos : Pos} {fi : Ev → Gp → R Src} {gf : U → Ev → Gp → R Ev} {ft : Ev → Gp → R Bool} {fe : Ev → Gp → R U} (hZ : Z.er = none) (hc : X.calm = true) (hN : X.N.Nodup) (hy : X.N[i]? = some y) (hyl : X.env.scope.names.lookup y = some .local)
    (hsw : swapsWith (.ListComp elt [⟨tg, iter, ifs, 0⟩] scope pos) (some (.Name y py)) spos.line X.env = pure true) (hi : FI X Z W tg iter fi) (ok : BlkOk X.N X.env.scope scope own)
    (hg : ∀ (s : Shared) (H : Hp) (C : Addr) (cl : List (Str × Addr)) (fp : List Addr), FGw (X.blk s H scope (compEnvC scope cl C X.env) fp) Z tg gf (own.map (·.2))) (ht : ∀ (s : Shared) (H : Hp) (C : Addr) (cl : List (Str × Addr)) (fp : List Addr), FTs (X.blk s H scope (compEnvC scope cl C X.env) fp) Z ifs ft)
    (he : ∀ (s : Shared) (H : Hp) (C : Addr) (cl : List (Str × Addr)) (fp : List Addr), FE (X.blk s H scope (compEnvC scope cl C X.env) fp) Z W0 elt fe) (hs : ∀ x, foldedSetIterable iter X.env x = pure x := by intro _; rfl) :
    FS X Z W (.Assign [.Name y py] (.ListComp elt [⟨tg, iter, ifs, 0⟩] scope pos) spos) (sAsg (eComp (own.map (·.2)) fi gf ft fe) (gNm i)) := by
  refine PSimp (ps_setLc (te := tF (kz X Z) W0 fe) (tt := ttF (kz X Z) W0 ft) (g := tgW (kz X Z) gf (own.map (·.2))) hc hN hy hyl hsw hi ok hg ht he hs) fun D σ H ⟨ρ, G, env, S, e, h⟩ => ?_
  refine tLc_of (W := W) hZ σ H _ ?_
  exact tG_mono (stepS S e h) fun v H1 ⟨ρ1, G1, x, p1, s1, S1, e1, r1, h1⟩ => h1 _ _ _ pre_refl Stb.refl S1 (e1.set r1 i)
end
end FL

set_option Elab.async false
set_option linter.all false
set_option maxRecDepth 100000
set_option maxHeartbeats 4000000
set_option autoImplicit false
namespace FL
open PySem PySem.Spec L2

/-! ### defs -/
def zP {K : PySem.W.Frag} (Z : ZZ K) : KZ := ⟨K, Z⟩
/-- the promise of a def: it does what F tells -/
def spF (K : PySem.W.Frag) (n : Nat) (F : List U → Gp → R U) : Sp := fun vs H Q E => vs.length = n ∧ ∃ (Z : ZZ K) (ρ : List Addr) (G : Gp) (us : List U), Z.er = none ∧ Sim ⟨K, Z⟩ ρ G H ∧ RUs ⟨K, Z⟩ ρ H us vs ∧ Post ⟨K, Z⟩ (RU ⟨K, Z⟩) ρ H (F us G) Q E
/-- a def by its body: n parameters, m names in all -/
def defF (n m : Nat) (body : Ev → Gp → SR) (us : List U) (G : Gp) : R U := if us.length = n then (match body (startE m us) G with
  | .nx _ G' => .ok .non G'
  | .ret u G' => .ok u G'
  | .exc c fs _ G' => .exc c fs G'
  | _ => .bad) else .bad
abbrev FnF (P : Program) (w : World) (K : PySem.W.Frag) (mg : Str → Option Value) (base : Heap) (k : Nat) (f : Addr) (fd : FuncData) (ps : List Str) (F : List U → Gp → R U) : Prop := FnOk P w K mg base (CX P w) k f fd ps (spF K ps.length F)
section
variable {P : Program} {w : World} {K : PySem.W.Frag} {mg : Str → Option Value} {base : Heap}
/-- what an exception that leaves the def's body wants -/
def wE (E : XK) : WX := fun cls d _ H => E cls d H
theorem fnF_of {x qual : Str} {params : Arguments} {body : List Stmt} {scope : Scope} {kws : List (Str × V)} {dvs : List V} {f : Addr} {fd : FuncData} {N ps : List Str} {k : Nat} {g : Ev → Gp → SR} (F : FunD K x qual params body scope dvs kws f fd) (S : FnScope N ps scope)
    (hb : ∀ (Z : ZZ K) (hZ : Z.er = none) (X : Cx) (cdv : Value) (A : Around) (outer : List Env) (s : Shared) (H : Hp) (E : XK), X = cxOf (CX P w) P w K mg base N qual scope f cdv A outer s H E → Room k X.A →
      FSs (cxOf (CX P w) P w K mg base N qual scope f cdv A outer s H E) Z (wE E) body g) : FnF P w K mg base (k + 1) f fd ps (defF ps.length N.length g) := by
  refine F.ok S (fun vs H Q E h => h.1) fun cdv A outer s H vs Q E hr h => ?_
  obtain ⟨hl, Z, ρ, G, us, hZ, Sm, r, h⟩ := h
  refine ⟨_, hb Z hZ _ cdv A outer s H E rfl hr, ρ, G, startE N.length us, Sm, REq.start hZ r N, ?_⟩
  unfold defF at h
  rw [if_pos (by rw [r.len]; exact hl)] at h
  cases q : g (startE N.length us) G with
  | nx e G' => rw [q] at h; exact fun σ' ρ' H' p s S' e' => h .non ρ' H' p s S' .non
  | ret u G' => rw [q] at h; exact h
  | brk e G' => rw [q] at h; exact h.elim
  | ct e G' => rw [q] at h; exact h.elim
  | exc c fs e G' => rw [q] at h; exact fun σ' d vfs ρ' H' p s S' e' q1 q2 => h d vfs ρ' H' p s S' q1 q2
  | bad => rw [q] at h; exact h.elim
end
section
variable {X : Cx} {Z : ZZ X.K} {W : WX} {k n : Nat} {f : Addr} {fd : FuncData} {ps : List Str} {x : Str} {p pos : Pos} {e : Expr} {es : List Expr} {F : List U → Gp → R U} {fa : Ev → Gp → R (List U)}
theorem passesAt_tk (tk : Takes X W) (σ : St) : PassesAt (CX X.prog X.w) X σ (fun c d H => W c d σ H) := fun pins H s e s' I c => tk e s' (XE.of_call I (fun _ _ _ h => h) c)
/-- a call whose F tells nothing bad has the right number of arguments -/
def Ar (n : Nat) (F : List U → Gp → R U) : Prop := ∀ us G, us.length ≠ n → F us G = .bad
theorem ar_defF {n m : Nat} {g : Ev → Gp → SR} : Ar n (defF n m g) := fun us G h => if_neg h
theorem fcall (hZ : Z.er = none) (Fn : FnF X.prog X.w X.K X.mg X.base k f fd ps F) (ar : Ar ps.length F) (hr : Room k X.A) (tk : Takes X W) (hm : X.mg x = some (.ref f)) (hk : PySem.W.keepIn X.K (.ref f) = true) (hb : Binds X.K fd ps []) (ha : FA X Z W (e :: es) fa) (hg : Gl X x := by rfl)
    (hdb : (x == ("__debug__" : Str)) = false := by decide) (he : starEach (e :: es) X.env = (false, eval e X.env) :: starEach es X.env := by rfl) (hpl : (backTo pos (starEach es X.env)).any (·.1) = false := by rfl) :
    FE X Z W (.Call (.Name x p) (e :: es) [] pos) (eCall F fa) := by
  refine PEimp (pe_callSD (dvs := []) (ds := []) (E := fun σ c d H => W c d σ H) Fn hr hg hm hk hb .nil (passesAt_tk tk) ha hdb he hpl) fun σ H Q ⟨ρ, G, env, S, e, h⟩ => ?_
  refine tG_mono (step (rel := RUs (kz X Z)) S e h) fun vs H1 ⟨ρ1, G1, us, p1, s1, S1, e1, r1, h1⟩ => ?_
  rw [List.append_nil]
  refine ⟨?_, Z, ρ1, G1, us, hZ, S1, r1, h1⟩
  rw [← r1.len]
  by_cases hl : us.length = ps.length
  · exact hl
  · rw [ar us G1 hl] at h1; exact h1.elim
theorem fcall0 (hZ : Z.er = none) (Fn : FnF X.prog X.w X.K X.mg X.base k f fd ps F) (ar : Ar ps.length F) (hr : Room k X.A) (tk : Takes X W) (hm : X.mg x = some (.ref f)) (hk : PySem.W.keepIn X.K (.ref f) = true) (hb : Binds X.K fd ps []) (hg : Gl X x := by rfl)
    (hdb : (x == ("__debug__" : Str)) = false := by decide) : FE X Z W (.Call (.Name x p) [] [] pos) (eCall F aNil) := by
  refine ⟨fun pins s σ H Q I h => ?_⟩
  obtain ⟨ρ, G, env, S, e, h⟩ := h
  have h : Post (kz X Z) (RU (kz X Z)) ρ H (F [] G) Q fun c d H' => W c d σ H' := h
  refine wpAny_Call_Name_kw (ld_glob I hg hm ?_ hdb)
  refine PySem.W.callWith_K0 I.kIn hk (run_fnSD (us := []) (vs := []) (dvs := []) (E := fun σ c d H => W c d σ H) Fn hr hb .nil (passesAt_tk tk σ) I .nil ?_)
  refine ⟨?_, Z, ρ, G, [], hZ, S, .nil, h⟩
  by_cases hl : ([] : List U).length = ps.length
  · exact hl
  · rw [ar [] G hl] at h; exact h.elim
/-! keywords -/
def pickL {α : Type} (idx : List Nat) (xs : List α) : List α := idx.filterMap fun i => xs[i]?
def gK {α : Type} (a b : Nat) (idx : List Nat) (us ws : List α) : List α := if us.length = a ∧ ws.length = b then pickL idx (us ++ ws) else []
theorem pick_vals {xs : List V} {us : List Value} (r : Vals xs us) : ∀ idx : List Nat, Vals (pickL idx xs) (pickL idx us)
  | [] => .nil
  | i :: r' => by
    have ih := pick_vals r r'
    unfold pickL at ih ⊢
    rw [List.filterMap_cons, List.filterMap_cons]
    cases q : xs[i]? with
    | none => rw [r.none_of q]; exact ih
    | some v =>
      obtain ⟨u, e, ru⟩ := r.get q
      rw [e]
      exact .cons ru ih
theorem pick_rel {K : KZ} {ρ : List Addr} {H : Hp} {us : List U} {xs : List V} (r : RUs K ρ H us xs) : ∀ idx : List Nat, RUs K ρ H (pickL idx us) (pickL idx xs)
  | [] => .nil
  | i :: r' => by
    have ih := pick_rel r r'
    unfold pickL at ih ⊢
    rw [List.filterMap_cons, List.filterMap_cons]
    cases q : us[i]? with
    | none =>
      have q2 : xs[i]? = none := List.getElem?_eq_none_iff.mpr (by rw [← r.len]; exact List.getElem?_eq_none_iff.mp q)
      rw [q2]; exact ih
    | some v =>
      obtain ⟨u, e, ru⟩ := r.getU q
      rw [e]
      exact .cons ru ih
theorem gK_vals {a b : Nat} {idx : List Nat} {xs ys : List V} {us ws : List Value} (r : Vals xs us) (q : Vals ys ws) : Vals (gK a b idx xs ys) (gK a b idx us ws) := by
  unfold gK
  rw [r.length, q.length]
  split
  · exact pick_vals (r.append q) idx
  · exact .nil
theorem gK_rel {K : KZ} {ρ : List Addr} {H : Hp} {a b : Nat} {idx : List Nat} {xs ys : List U} {us ws : List V} (r : RUs K ρ H xs us) (q : RUs K ρ H ys ws) : RUs K ρ H (gK a b idx xs ys) (gK a b idx us ws) := by
  unfold gK
  rw [r.len, q.len]
  split
  · exact pick_rel (r.append q) idx
  · exact .nil
abbrev FK (X : Cx) (Z : ZZ X.K) (W : WX) (kws : List Keyword) (f : Ev → Gp → R (List U)) : Prop := PK X kws (taF (kz X Z) W f)
theorem PKimp {kws : List Keyword} {t t' : TA} (h : PK X kws t) (i : ∀ σ H Q, t' σ H Q → t σ H Q) : PK X kws t' := ⟨fun pos pins s σ H Q I q => h.run pos pins s σ H Q I (i σ H Q q)⟩
theorem fknil : FK X Z W [] aNil := by
  refine PKimp pk_nil fun σ H Q ⟨ρ, G, env, S, e, h⟩ => ?_
  exact Post.end_ (a := ([] : List U)) h S .nil
theorem fkcons {e : Expr} {kws : List Keyword} {nm : Option Str} {kpos : Pos} {f : Ev → Gp → R U} {fs : Ev → Gp → R (List U)} (ha : FE X Z W e f) (hr : FK X Z W kws fs) : FK X Z W (⟨nm, e, kpos⟩ :: kws) (aCons f fs) := by
  refine PKimp (pk_cons ha hr) fun σ H Q ⟨ρ, G, env, S, e, h⟩ => ?_
  refine tG_mono (step S e h) fun v H1 ⟨ρ1, G1, x, p1, s1, S1, e1, r1, h1⟩ => ?_
  exact tG_mono (step S1 e1 h1) fun w H2 ⟨ρ2, G2, y, p2, s2, S2, e2, r2, h2⟩ => h2.end_ S2 (.cons (r1.mono p2 s2) r2)
def eCallK (F : List U → Gp → R U) (a b : Nat) (idx : List Nat) (fa fk : Ev → Gp → R (List U)) : Ev → Gp → R U := fun env G => (fa env G).bind fun us G1 => (fk env G1).bind fun ws G2 => F (gK a b idx us ws) G2
theorem run_fnkSD {ks : List Str} {g : List Value → List Value → List Value} {gV : List V → List V → List V} {CX0 : CXT} {sp : Sp} {E : XK} {pins : List (Addr × Obj)} {σ : St} {H : Hp} {s : Shared} {Q : VK} {us ws : List Value} {vs zs : List V} (F : FnOk X.prog X.w X.K X.mg X.base CX0 k f fd ps sp) (hr : Room k X.A) (hb : KBinds X.K fd ps ks g gV) (hx : PassesAt CX0 X σ E)
    (I : Inv X pins σ H s) (r : Vals vs us) (rz : Vals zs ws) (h : sp (gV vs zs) H Q E) : wpAny (model X.prog X.w) X.A (call (.ref f) us (ks.zip ws)) (EP X pins σ Q) X.xe s := by
  have r2 := hb.rel r rz
  have hl : (g us ws).length = ps.length := by rw [← r2.length]; exact F.len _ _ _ _ h
  refine wpAny_call (codeAny_mono (F.run X.A X.stack s H ⟨us, ks.zip ws⟩ (g us ws) (gV vs zs) Q E hr I.env0 (hb.to s us ws I.kIn hl) r2 h) fun r s' hq => ?_)
  cases r with
  | error e => exact hx pins H s e s' I hq
  | ok fl =>
    cases fl with
    | ret u => exact I.after hq
    | next => exact False.elim hq
    | brk => exact False.elim hq
    | cont => exact False.elim hq
theorem fcallK0 {ks : List Str} {b : Nat} {idx : List Nat} {kws : List Keyword} {fk : Ev → Gp → R (List U)} (hZ : Z.er = none) (Fn : FnF X.prog X.w X.K X.mg X.base k f fd ps F) (ar : Ar ps.length F) (hr : Room k X.A) (tk : Takes X W) (hm : X.mg x = some (.ref f)) (hk : PySem.W.keepIn X.K (.ref f) = true)
    (hb : KBinds X.K fd ps ks (gK 0 b idx) (gK 0 b idx)) (hkw : FK X Z W kws fk) (hg : Gl X x := by rfl) (hall : (backToKw pos (keywordEach kws X.env)).all (·.1.isSome) = true := by rfl) (hks : (backToKw pos (keywordEach kws X.env)).filterMap (·.1) = ks := by rfl)
    (hdb : (x == ("__debug__" : Str)) = false := by decide) (hpl : ((backTo pos (starEach ([] : List Expr) X.env)).any (·.1) || (backToKw pos (keywordEach kws X.env)).any (·.1.isNone)) = false := by rfl) :
    FE X Z W (.Call (.Name x p) [] kws pos) (eCallK F 0 b idx aNil fk) := by
  refine ⟨fun pins s σ H Q I h => ?_⟩
  obtain ⟨ρ, G, env, S, e, h⟩ := h
  refine wpAny_Call_Name_kw (ld_glob I hg hm ?_ hdb)
  have h : Post (kz X Z) (RU (kz X Z)) ρ H ((fk env G).bind fun ws G2 => F (gK 0 b idx [] ws) G2) Q fun c d H' => W c d σ H' := h
  refine PySem.W.callWith_KW0 I.kIn hk hall ?_ hpl
  refine thn (hkw.run pos pins s σ H _ I (step (rel := RUs (kz X Z)) S e h)) fun ws s2 ⟨zs, H2, I2, rz, ρ1, G1, us, p1, s1, S1, e1, r1, h1⟩ => ⟨I2.kIn, ?_⟩
  rw [hks]
  refine run_fnkSD (us := []) (vs := []) Fn hr hb (passesAt_tk tk σ) I2 .nil rz ?_
  have rr : RUs (kz X Z) ρ1 H2 (gK 0 b idx [] us) (gK 0 b idx [] zs) := gK_rel .nil r1
  refine ⟨?_, Z, ρ1, G1, _, hZ, S1, rr, h1⟩
  rw [← rr.len]
  by_cases hl : (gK 0 b idx [] us).length = ps.length
  · exact hl
  · rw [ar _ G1 hl] at h1; exact h1.elim
theorem fcallK {ks : List Str} {a b : Nat} {idx : List Nat} {kws : List Keyword} {fk : Ev → Gp → R (List U)} (hZ : Z.er = none) (Fn : FnF X.prog X.w X.K X.mg X.base k f fd ps F) (ar : Ar ps.length F) (hr : Room k X.A) (tk : Takes X W) (hm : X.mg x = some (.ref f)) (hk : PySem.W.keepIn X.K (.ref f) = true)
    (hb : KBinds X.K fd ps ks (gK a b idx) (gK a b idx)) (ha : FA X Z W (e :: es) fa) (hkw : FK X Z W kws fk) (hg : Gl X x := by rfl) (hall : (backToKw pos (keywordEach kws X.env)).all (·.1.isSome) = true := by rfl) (hks : (backToKw pos (keywordEach kws X.env)).filterMap (·.1) = ks := by rfl)
    (hdb : (x == ("__debug__" : Str)) = false := by decide) (he : starEach (e :: es) X.env = (false, eval e X.env) :: starEach es X.env := by rfl)
    (hpl : ((backTo pos (starEach (e :: es) X.env)).any (·.1) || (backToKw pos (keywordEach kws X.env)).any (·.1.isNone)) = false := by rfl) :
    FE X Z W (.Call (.Name x p) (e :: es) kws pos) (eCallK F a b idx fa fk) := by
  refine ⟨fun pins s σ H Q I h => ?_⟩
  obtain ⟨ρ, G, env, S, e, h⟩ := h
  refine wpAny_Call_Name_kw (ld_glob I hg hm ?_ hdb)
  refine PySem.W.callWith_KW (h₀ := X.base) I.ok.mod.kin hk hall (thn (ha.run pos pins s σ H _ I (step (rel := RUs (kz X Z)) S e h)) fun us0 s1 ⟨vs, H1, I1, r, ρ1, G1, us, p1, st1, S1, e1, r1, h1⟩ => ?_) hpl he
  refine thn (hkw.run pos pins s1 σ H1 _ I1 (step (rel := RUs (kz X Z)) S1 e1 h1)) fun ws s2 ⟨zs, H2, I2, rz, ρ2, G2, us2, p2, st2, S2, e2, r2, h2⟩ => ⟨I2.kIn, ?_⟩
  rw [hks]
  refine run_fnkSD Fn hr hb (passesAt_tk tk σ) I2 r rz ?_
  have rr : RUs (kz X Z) ρ2 H2 (gK a b idx us us2) (gK a b idx vs zs) := gK_rel (r1.mono p2 st2) r2
  refine ⟨?_, Z, ρ2, G2, _, hZ, S2, rr, h2⟩
  rw [← rr.len]
  by_cases hl : (gK a b idx us us2).length = ps.length
  · exact hl
  · rw [ar _ G2 hl] at h2; exact h2.elim
end
theorem kbinds_of {K : PySem.W.Frag} {x qual : Str} {params : Arguments} {body : List Stmt} {scope : Scope} {kws : List (Str × V)} {f : Addr} {fd : FuncData} {ps ks : List Str} (F : FunD K x qual params body scope [] kws f fd) (a b : Nat) (idx : List Nat) (ne : ps.length ≠ 0)
    (h : ∀ (kV doc pm : Value) (an : Option Addr) (cdv ct : Value) (us ws : List Value), us.length = a → ws.length = b → bindArgs (PySem.W.fnOf x qual params body scope .none kV doc pm an cdv ct) ⟨us, ks.zip ws⟩ = pure (ps.zip (pickL idx (us ++ ws)))) : KBinds K fd ps ks (gK a b idx) (gK a b idx) := by
  obtain ⟨oc, od, dV, kV, doc, pm, an, cdv, ct, osl, rfl, lk, hcd, hD, _⟩ := F.ex
  rcases hD with ⟨_, rfl⟩ | ⟨e, _⟩
  · refine ⟨fun s us ws _ hl => ?_, fun r q => gK_vals r q⟩
    unfold gK at hl ⊢
    by_cases hh : us.length = a ∧ ws.length = b
    · rw [if_pos hh]
      exact .of_eq (h _ _ _ _ _ _ us ws hh.1 hh.2)
    · rw [if_neg hh] at hl
      exact absurd hl.symm ne
  · exact absurd rfl e
end FL

set_option Elab.async false
set_option linter.all false
set_option maxRecDepth 100000
set_option maxHeartbeats 4000000
/-! several except clauses, with or without a name: the two rules of TryMany and Exc (ps_try_many, ps_try_as) in one -/
namespace L2
open PySem PySem.Spec PyProof.Rows
abbrev Sui := Addr → Value → Option Addr → TS
def D_un (D : Ends) (i : Nat) : Ends := { nx := fun σ' H' => D.nx (σ'.set i none) H', rt := D.rt, bk := fun σ' H' => D.bk (σ'.set i none) H', ct := fun σ' H' => D.ct (σ'.set i none) H' }
def wManyA (K : PySem.W.Frag) (Wout : WX) (D : Ends) : List (Value × Option Nat × Sui) → WX
  | [] => Wout
  | (c, none, ts) :: r => fun cls d σ H => ∃ b, PySem.W.exmOne K cls c = some b ∧ (b = true → ∀ a, H a = none → ts a cls d D σ H) ∧ (b = false → wManyA K Wout D r cls d σ H)
  | (c, some i, ts) :: r => fun cls d σ H => ∃ b, PySem.W.exmOne K cls c = some b ∧ (b = true → ∀ a, H a = none → ts a cls d (D_un D i) (σ.set i (some (.ref a))) H) ∧ (b = false → wManyA K Wout D r cls d σ H)
inductive HdsA (X : Cx) : List ExceptHandler → List (Value × Option Nat × Sui) → Prop
  | nil : HdsA X [] []
  | cons {x : Str} {c : Value} {ts : Sui} {b₀ : Stmt} {suite : List Stmt} {np pos' : Pos} {hds : List ExceptHandler} {l : List (Value × Option Nat × Sui)} (hc : Names X x c)
      (hsu : ∀ (a : Addr) (oe : Obj) (cls : Value) (d : Option Addr) (pn : List (Addr × Obj)), Zc cls d oe → (∃ vs, oe.data = .fields vs) → PSs (X.suite a ((a, oe) :: pn)) (b₀ :: suite) (ts a cls d)) (r : HdsA X hds l) :
      HdsA X (.ExceptHandler (some (.Name x np)) none (b₀ :: suite) pos' :: hds) ((c, none, ts) :: l)
  | as {x n : Str} {i : Nat} {c : Value} {ts : Sui} {b₀ : Stmt} {suite : List Stmt} {np pos' : Pos} {hds : List ExceptHandler} {l : List (Value × Option Nat × Sui)} (hc : Names X x c) (hi : X.N[i]? = some n) (hln : X.env.kindOf n = some .local)
      (hsu : ∀ (a : Addr) (oe : Obj) (cls : Value) (d : Option Addr) (pn : List (Addr × Obj)), Zc cls d oe → (∃ vs, oe.data = .fields vs) → PSs (X.suite a ((a, oe) :: pn)) (b₀ :: suite) (ts a cls d)) (r : HdsA X hds l) :
      HdsA X (.ExceptHandler (some (.Name x np)) (some n) (b₀ :: suite) pos' :: hds) ((c, some i, ts) :: l)
section
variable {X : Cx} {body : List Stmt} {h₀ : ExceptHandler} {hds : List ExceptHandler} {l : List (Value × Option Nat × Sui)} {pos : Pos} {tb : WX → TS} {Wout : WX}
theorem ps_try_A (hs : X.stack = X.env :: X.outer) (hf : X.env.frame = some X.env.locals) (hN : X.N.Nodup) (tk : Takes X Wout)
    (hb : ∀ (W : WX) (pn : List (Addr × Obj)) (xe : Value → Shared → Prop), Takes (X.tr pn xe) W → PassesOwn (model X.prog X.w) X.A X.env xe → PSs (X.tr pn xe) body (tb W))
    (hh : HdsA X (h₀ :: hds) l) : PS X (.Try body (h₀ :: hds) [] [] pos) (fun D σ H => tb (wManyA X.K Wout D l) D σ H) := by
  refine ⟨fun pins s σ H D I h => ?_⟩
  have ok := I.ok
  have hfr : X.A.frames = some (X.env :: X.outer) := by rw [ok.frames, hs]
  refine wpAny_Try_except ?_
  refine wpAny_mono ((hb (wManyA X.K Wout D l) (X.pn ++ pins) (fun e s₁ => wpAny (model X.prog X.w) X.A (noteFrame e X.env) (fun _ s₂ => wpAny (model X.prog X.w) X.A (setFlight e none) (fun _ s₃ =>
    wpAny (model X.prog X.w) X.A (handleBy e X.env (h₀ :: hds)) (SP X pins D) X.xe s₃) X.xe s₂) X.xe s₁) (fun u s' xx => ?_) PassesOwn.looking).run [] s σ H D (I.toTry _) h) (fun f s1 hsp => ?_) (fun e s1 he => he)
  · obtain ⟨a, B, sI, pins', σ', H', cls, d, rfl, J', nb, up, sky, na, os, ag, w⟩ := xx
    have J : Inv X pins σ' H' sI := J'.ofTry ok
    have sky' : Sky B (X.env :: X.outer) a (Zc cls d) X.env.locals s'.heap := by rw [← hs]; exact sky
    show wpAny (model X.prog X.w) X.A (noteFrame (.ref a) X.env) _ _ _
    refine Sky.land Zc.steady hfr hf sky' fun h3 fl3 up3 => ?_
    have J3 : Inv X pins σ' H' { s' with heap := h3 } := J.landed nb fl3.1 (up.trans up3) os ag
    obtain ⟨oe3, vs3, he3, hz3, hd3⟩ := fl3.there
    have notFr : ∀ {h : Heap} {o : Obj} {vs : Array Value}, h.FunFrames B (X.env :: X.outer) → h.get? a = some o → o.data = .fields vs → a ∉ frs (X.env :: X.outer) := fun {h o vs} ff e dd hm => by
      obtain ⟨_, o', e', hnf⟩ := ff.mem hm
      rw [e] at e'; cases e'
      exact hnf _ dd
    have nfr := notFr fl3.2.2.1 he3 hd3
    have nL : a ≠ X.env.locals := fun z => nfr (List.mem_filterMap.mpr ⟨X.env, List.mem_cons_self, by rw [hf, z]⟩)
    have nF : a ∉ X.fs := fun hm => by
      obtain ⟨e, he, q⟩ := List.mem_filterMap.mp hm
      exact nfr (List.mem_filterMap.mpr ⟨e, List.mem_cons_of_mem _ he, q⟩)
    have S3 := J3.suite he3 hd3 na nL nF
    have LT : PySem.W.Looks (model X.prog X.w) h3 (typeOf (.ref a)) cls := fun A Q E s k q => wpAny_typeOf_ref (k _ _ he3) (by rw [hz3.1]; exact q)
    have go : ∀ {hds' : List ExceptHandler} {l' : List (Value × Option Nat × Sui)}, HdsA X hds' l' → wManyA X.K Wout D l' cls d σ' H' →
        wpAny (model X.prog X.w) X.A (handleBy (.ref a) X.env hds') (SP X pins D) X.xe { s' with heap := h3 } := by
      intro hds' l' hk
      induction hk with
      | nil =>
        intro w
        refine wpAny_handleBy_nil ?_
        obtain ⟨k1, k2, k3, oe, vs, T, oT, ts', he, hz, hd, h1, hr⟩ := id fl3
        unfold PySem.passOn
        refine wpAny_bind (wpAny_field he hd h1 ?_)
        rw [if_neg (show ¬ ((Value.ref T == Value.none) = true) from by simp)]
        have fin : wpAny (model X.prog X.w) X.A (setFlight (.ref a) X.env.frame) (fun _ s4 => wpAny (model X.prog X.w) X.A (throw (.ref a) : Sem Flow) (SP X pins D) X.xe s4) X.xe { s' with heap := h3 } := by
          rw [hf]
          refine HandSPX.setFlight_upZ fl3 fun h4 hh4 up4 => wpAny_throw (tk _ _ ?_)
          exact ⟨a, B, sI, pins, σ', H', cls, d, rfl, J, nb, (up.trans up3).trans up4, .inr (.inr (by rw [hs]; exact hh4)), na, os, ag, w⟩
        first
          | exact wpAny_bind (wpAny_pure (wpAny_bind fin))
          | exact wpAny_bind fin
      | @cons x c ts b₀ suite np pos' hds2 l2 hc hsu r ih =>
        intro w
        obtain ⟨b, hb1, hyes, hno⟩ := w
        refine wpAny_handleBy_cons (codeAny_handlers_test ?_) (by intro q; cases q)
        have LM := PySem.W.exm_one (M := model X.prog X.w) (J3.kIn) LT hb1
        have test : ∀ {Q : Value → Shared → Prop} {E : Value → Shared → Prop}, Q c { s' with heap := h3 } → wpAny (model X.prog X.w) (X.A.mark (some (.ref a))) (eval (.Name x np) X.env) Q E { s' with heap := h3 } := fun {Q E} q => by
          obtain ⟨hg, hdbg, hm | ⟨hm, hv, hnn⟩⟩ := hc
          · exact ld_glob (X := X.suite a ((a, oe3) :: (X.pn ++ pins))) S3 hg hm q hdbg
          · exact ld_blt (X := X.suite a ((a, oe3) :: (X.pn ++ pins))) S3 hg hm hv q hnn hdbg
        refine test (LM.here ?_)
        cases b with
        | true =>
          refine codeAny_handlers_suite ?_
          refine HandSPX.lands_againZ fl3 fun h4 fl4 up4 => ?_
          have J4 : Inv X pins σ' H' { s' with heap := h4 } := J.landed nb fl4.1 ((up.trans up3).trans up4) os ag
          obtain ⟨oe4, vs4, he4, hz4, hd4⟩ := fl4.there
          have S4 := J4.suite he4 hd4 na nL nF
          refine wpAny_mono ((hsu a oe4 cls d (X.pn ++ pins) hz4 ⟨_, hd4⟩).run [] _ _ H' _ S4 (hyes rfl a na)) (fun f s6 hsp => ?_) (fun _ _ z => False.elim z)
          cases f with
          | next =>
            obtain ⟨σ6, H6, S6, q6⟩ := hsp
            exact ⟨_, _, S6.unsuite ok, q6⟩
          | brk =>
            obtain ⟨σ6, H6, S6, q6⟩ := hsp
            exact ⟨_, _, S6.unsuite ok, q6⟩
          | cont =>
            obtain ⟨σ6, H6, S6, q6⟩ := hsp
            exact ⟨_, _, S6.unsuite ok, q6⟩
          | ret u =>
            obtain ⟨v6, σ6, H6, S6, r6, q6⟩ := hsp
            exact ⟨_, _, _, S6.unsuite ok, r6, q6⟩
        | false =>
          show wpAny _ X.A (handleBy (.ref a) X.env hds2) _ _ _
          exact ih (hno rfl)
      | @as x n i c ts b₀ suite np pos' hds2 l2 hc hi hln hsu r ih =>
        intro w
        obtain ⟨b, hb1, hyes, hno⟩ := w
        refine wpAny_handleBy_cons (codeAny_handlers_test ?_) (by intro q; cases q)
        have hloc : Loc X.env.scope n := .inl hln
        have LM := PySem.W.exm_one (M := model X.prog X.w) (J3.kIn) LT hb1
        have test : ∀ {Q : Value → Shared → Prop} {E : Value → Shared → Prop}, Q c { s' with heap := h3 } → wpAny (model X.prog X.w) (X.A.mark (some (.ref a))) (eval (.Name x np) X.env) Q E { s' with heap := h3 } := fun {Q E} q => by
          obtain ⟨hg, hdbg, hm | ⟨hm, hv, hnn⟩⟩ := hc
          · exact ld_glob (X := X.suite a ((a, oe3) :: (X.pn ++ pins))) S3 hg hm q hdbg
          · exact ld_blt (X := X.suite a ((a, oe3) :: (X.pn ++ pins))) S3 hg hm hv q hnn hdbg
        refine test (LM.here ?_)
        cases b with
        | true =>
          refine codeAny_handlers_suite_as ?_
          refine HandSPX.lands_againZ fl3 fun h4 fl4 up4 => ?_
          have J4 : Inv X pins σ' H' { s' with heap := h4 } := J.landed nb fl4.1 ((up.trans up3).trans up4) os ag
          obtain ⟨oe4, vs4, he4, hz4, hd4⟩ := fl4.there
          have S4 := J4.suite he4 hd4 na nL nF
          refine store_ok (X := X.suite a ((a, oe4) :: (X.pn ++ pins))) (v := .ref a) S4 hN hi hloc rfl (fun s5 S5 => ?_) (.inr hln)
          refine wpAny_mono ((hsu a oe4 cls d (X.pn ++ pins) hz4 ⟨_, hd4⟩).run [] s5 _ H' _ S5 (hyes rfl a na)) (fun f s6 hsp => ?_) (fun _ _ z => False.elim z)
          have end_ : ∀ {σ6 : St} {H6 : Hp} {Q : Shared → Prop}, Inv (X.suite a ((a, oe4) :: (X.pn ++ pins))) [] σ6 H6 s6 → (∀ s7, Inv X pins (σ6.set i none) H6 s7 → Q s7) →
              wpAny (model X.prog X.w) X.A (do bindName X.env n .none; unbindBehindTheSuite X.env n pos') (fun _ s7 => Q s7) X.xe s6 := fun {σ6 H6 Q} S6 hq => gone_ok (S6.unsuite ok) hN hi hln hq
          cases f with
          | next =>
            obtain ⟨σ6, H6, S6, q6⟩ := hsp
            exact end_ S6 fun s7 J7 => ⟨_, _, J7, q6⟩
          | brk =>
            obtain ⟨σ6, H6, S6, q6⟩ := hsp
            exact end_ S6 fun s7 J7 => ⟨_, _, J7, q6⟩
          | cont =>
            obtain ⟨σ6, H6, S6, q6⟩ := hsp
            exact end_ S6 fun s7 J7 => ⟨_, _, J7, q6⟩
          | ret u =>
            obtain ⟨v6, σ6, H6, S6, r6, q6⟩ := hsp
            exact end_ S6 fun s7 J7 => ⟨_, _, _, J7, r6, q6⟩
        | false =>
          show wpAny _ X.A (handleBy (.ref a) X.env hds2) _ _ _
          exact ih (hno rfl)
    exact go hh w
  · cases f with
    | next =>
      obtain ⟨σ', H', J', q⟩ := hsp
      exact wpAny_execs_nil ⟨σ', H', J'.ofTry ok, q⟩
    | brk =>
      obtain ⟨σ', H', J', q⟩ := hsp
      exact ⟨σ', H', J'.ofTry ok, q⟩
    | cont =>
      obtain ⟨σ', H', J', q⟩ := hsp
      exact ⟨σ', H', J'.ofTry ok, q⟩
    | ret u =>
      obtain ⟨v, σ', H', J', r, q⟩ := hsp
      exact ⟨v, σ', H', J'.ofTry ok, r, q⟩
end
/-! the facts of a class of errors, by a look that computes -/
def oexB (K : PySem.W.Frag) (C : Addr) : Bool := (match K.lookup C with
  | some ⟨.type "type", _, .cls cd, sl⟩ => (match cd.mro, sl.toList with
    | .ref C' :: bm, [_, _, _, _, some (.builtin n), _] => C' == C && n == "ValueError.__new__" && !cd.hasDel && cd.hasDict && PySem.HandSPX.refsVE bm
    | _, _ => false)
  | _ => false) && (decide (PySem.W.findIn K (.ref C) "__setattr__" = some (some (.builtin "object.__setattr__"))) && (decide (PySem.W.subIn K (.ref C) (.type "BaseException") = some true) && (decide (PySem.W.typeIn K (.ref C) = some (.type "type")) && PySem.W.keepIn K (.ref C))))
theorem oexB_ok {K : PySem.W.Frag} {C : Addr} (h : oexB K C = true) : OexC K C := by
  unfold oexB at h
  rw [Bool.and_eq_true, Bool.and_eq_true, Bool.and_eq_true, Bool.and_eq_true] at h
  obtain ⟨q, h1, h2, h3, h4⟩ := h
  refine ⟨?_, of_decide_eq_true h1, of_decide_eq_true h2, of_decide_eq_true h3, h4⟩
  split at q
  · rename_i dd cd sl ho
    split at q
    · rename_i C' bm k0 k1 k2 k3 n k5 hm hs
      simp only [Bool.and_eq_true, beq_iff_eq, Bool.not_eq_true'] at q
      obtain ⟨⟨⟨⟨rfl, rfl⟩, hdel⟩, hhd⟩, ht⟩ := q
      obtain ⟨nm, bs, mro, ns, qn, hd, sn, sub, ab, col, del⟩ := cd
      dsimp only at hm hdel hhd
      subst hm hdel hhd
      have hsl : sl = #[k0, k1, k2, k3, some (.builtin "ValueError.__new__"), k5] := by
        obtain ⟨l⟩ := sl
        simp only at hs
        rw [hs]
      subst hsl
      exact ⟨nm, qn, ns, bs, bm, sn, sub, ab, col, dd, k0, k1, k2, k3, k5, ho, ht⟩
    · cases q
  · cases q
end L2

set_option Elab.async false
set_option linter.all false
set_option maxRecDepth 100000
set_option maxHeartbeats 4000000
set_option autoImplicit false
namespace FL
open PySem PySem.Spec L2

/-! ### raise C(e, ..), C a class of errors whose __init__ stores its arguments -/
/-- what the written part says of such a class: its name, its fields -/
structure ExK (K : PySem.W.Frag) (mg : Str → Option Value) (c : Str) (fI : Addr) (fs : List Str) : Prop where
  T : OexC K (He.ga K c)
  iC : PySem.W.findIn K (.ref (He.ga K c)) "__init__" = some (some (.ref fI))
  tI : PySem.W.typeIn K (.ref fI) = some (.type "function")
  no : ∀ f ∈ fs, PySem.W.findIn K (.ref (He.ga K c)) f = some none
  gC : mg c = some (.ref (He.ga K c))
/-- __init__'s promise, one field, two -/
def spI (K : PySem.W.Frag) (C : Addr) (fs : List Str) : Sp := fun vs H Q _ => ∃ (a : Addr) (ws : List V), vs = .ref a :: ws ∧ ws.length = fs.length ∧ H a = some (exo a C none) ∧ OexC K C ∧
  (∀ f ∈ fs, PySem.W.findIn K (.ref C) f = some none) ∧ ∀ dx, H dx = none → dx ≠ a → Q .non (upd (upd (upd H dx (exd dx [])) a (exo a C (some dx))) dx (exd dx (fs.zip ws).reverse))
section
variable {P : Program} {w : World} {K : PySem.W.Frag} {mg : Str → Option Value} {base : Heap}
theorem upd_mid {H : Hp} {a dx : Addr} {o1 o2 o3 : HO} (ne : dx ≠ a) : upd (upd (upd H dx o1) a o2) dx o3 = upd (upd H dx o3) a o2 := by
  funext b
  unfold upd
  by_cases h1 : b = dx
  · subst h1
    rw [if_pos rfl, if_neg ne, if_pos rfl]
  · rw [if_neg h1]
    by_cases h2 : b = a
    · rw [if_pos h2, if_pos h2]
    · rw [if_neg h2, if_neg h2, if_neg h1, if_neg h1]
theorem okI1 {x qual f : Str} {params : Arguments} {body : List Stmt} {scope : Scope} {C fI : Addr} {fd : FuncData} {N : List Str} (F : FunD K x qual params body scope [] [] fI fd) (S : FnScope N ["self", f] scope) (hN : N.length = 2)
    (hb : ∀ (cdv : Value) (A : Around) (outer : List Env) (s : Shared) (H : Hp) (E : XK), PSs (cxOf (CX P w) P w K mg base N qual scope fI cdv A outer s H E) body (tOst K f (tVar 0) (tVar 1))) : FnOk P w K mg base (CX P w) 1 fI fd ["self", f] (spI K C [f]) := by
  refine F.ok S (fun vs H Q E h => ?_) fun cdv A outer s H vs Q E hr h => ?_
  · obtain ⟨a, ws, rfl, hl, _⟩ := h
    simp at hl ⊢; exact hl
  · obtain ⟨a, ws, rfl, hl, ha, T, no, q⟩ := h
    obtain ⟨y, rfl⟩ : ∃ y, ws = [y] := by
      cases ws with
      | nil => simp at hl
      | cons y r =>
        cases r with
        | nil => exact ⟨y, rfl⟩
        | cons _ _ => simp at hl
    refine ⟨_, hb cdv A outer s H E, ?_⟩
    have e : L2.start N [.ref a, y] = [some (.ref a), some y] := by simp [L2.start, hN]
    rw [e]
    refine ⟨y, rfl, .ref a, rfl, a, C, rfl, T, no f (by simp), .inl ⟨ha, fun dx n ne => ?_⟩⟩
    have z := q dx n ne
    rw [upd_mid ne] at z
    exact z
theorem okI2 {x qual f g : Str} {params : Arguments} {body : List Stmt} {scope : Scope} {C fI : Addr} {fd : FuncData} {N : List Str} (F : FunD K x qual params body scope [] [] fI fd) (S : FnScope N ["self", f, g] scope) (hN : N.length = 3)
    (hb : ∀ (cdv : Value) (A : Around) (outer : List Env) (s : Shared) (H : Hp) (E : XK), PSs (cxOf (CX P w) P w K mg base N qual scope fI cdv A outer s H E) body (tSeq (tOst K f (tVar 0) (tVar 1)) (tOst K g (tVar 0) (tVar 2)))) : FnOk P w K mg base (CX P w) 1 fI fd ["self", f, g] (spI K C [f, g]) := by
  refine F.ok S (fun vs H Q E h => ?_) fun cdv A outer s H vs Q E hr h => ?_
  · obtain ⟨a, ws, rfl, hl, _⟩ := h
    simp at hl ⊢; exact hl
  · obtain ⟨a, ws, rfl, hl, ha, T, no, q⟩ := h
    obtain ⟨y, y', rfl⟩ : ∃ y y', ws = [y, y'] := by
      match ws, hl with
      | [y, y'], _ => exact ⟨y, y', rfl⟩
    refine ⟨_, hb cdv A outer s H E, ?_⟩
    have e : L2.start N [.ref a, y, y'] = [some (.ref a), some y, some y'] := by simp [L2.start, hN]
    rw [e]
    refine ⟨y, rfl, .ref a, rfl, a, C, rfl, T, no f (by simp), .inl ⟨ha, fun dx n ne => ?_⟩⟩
    refine ⟨y', rfl, .ref a, rfl, a, C, rfl, T, no g (by simp), .inr ⟨dx, [(f, y)], upd_same, ?_, by show 1 ≤ 900; decide, ?_⟩⟩
    · rw [upd_ne ne, upd_same]
    · have z := q dx n ne
      have e2 : upd (upd (upd H dx (exd dx [(f, y)])) a (exo a C (some dx))) dx (exd dx [(g, y'), (f, y)]) = upd (upd (upd H dx (exd dx [])) a (exo a C (some dx))) dx (exd dx (([f, g].zip [y, y']).reverse)) := by
        rw [upd_mid ne, upd_mid ne]; rfl
      rw [e2]
      exact z
end
def sRaise (c : Str) (fs : List Str) (fa : Ev → Gp → R (List U)) : Ev → Gp → SR := fun env G => (fa env G).andThen env fun us G1 => if us.length = fs.length then .exc c (fs.zip us).reverse env G1 else .bad
section
variable {X : Cx} {Z : ZZ X.K} {W : WX} {c : Str} {fI : Addr} {fs : List Str} {fd : FuncData} {ps : List Str} {p pos pos2 : Pos} {e : Expr} {es : List Expr} {fa : Ev → Gp → R (List U)} {k : Nat}
theorem zip_rel {K : KZ} {ρ : List Addr} {H : Hp} (fs : List Str) {us : List U} {vs : List V} (r : RUs K ρ H us vs) (hl : us.length = fs.length) : RFs K ρ H (fs.zip us).reverse (fs.zip vs).reverse := by
  have e1 : (fs.zip us).map (·.1) = fs := List.map_fst_zip (by omega)
  have e2 : (fs.zip vs).map (·.1) = fs := List.map_fst_zip (by rw [← r.len]; omega)
  have e3 : (fs.zip us).map (·.2) = us := List.map_snd_zip (by omega)
  have e4 : (fs.zip vs).map (·.2) = vs := List.map_snd_zip (by rw [← r.len]; omega)
  refine ⟨by rw [List.map_reverse, List.map_reverse, e1, e2], ?_⟩
  rw [List.map_reverse, List.map_reverse, e3, e4]
  have rev : ∀ {us : List U} {vs : List V}, RUs K ρ H us vs → RUs K ρ H us.reverse vs.reverse := by
    intro us
    induction us with
    | nil => intro vs r; cases r; exact .nil
    | cons x xs ih =>
      intro vs r
      cases r with
      | cons h t => rw [List.reverse_cons, List.reverse_cons]; exact (ih t).append (.cons h .nil)
  exact rev r
theorem fraise (E : ExK X.K X.mg c fI fs) (F1 : FnOk X.prog X.w X.K X.mg X.base (CX X.prog X.w) 1 fI fd ps (spI X.K (He.ga X.K c) fs)) (hfs : fs.length ≤ 1000) (hb : Binds X.K fd ps []) (hr : Room 2 X.A) (hc : X.calm = true) (tk : Takes X W) (ha : FA X Z W (e :: es) fa) (hg : Gl X c := by rfl)
    (hdb : (c == ("__debug__" : Str)) = false := by decide) (he : starEach (e :: es) X.env = (false, eval e X.env) :: starEach es X.env := by rfl) (hpl : (backTo pos (starEach es X.env)).any (·.1) = false := by rfl) :
    FS X Z W (.Raise (some (.Call (.Name c p) (e :: es) [] pos)) none pos2) (sRaise c fs fa) := by
  refine PSimp (ps_raise hc tk (pmk_oex (dvs := []) (ds := []) E.T E.iC E.tI F1 hr hb .nil (passes_call tk fun _ _ _ _ h => h.elim) hg E.gC ha hdb he hpl)) fun D σ H ⟨ρ, G, env, S, e, h⟩ => ?_
  refine tG_mono (stepS (rel := RUs (kz X Z)) S e h) fun vs H1 ⟨ρ1, G1, us, p1, s1, S1, e1, r1, h1⟩ => ?_
  by_cases hl : us.length = fs.length
  · rw [if_pos hl] at h1
    refine ⟨by rw [← r1.len, hl]; exact hfs, fun a hn => ?_⟩
    rw [List.append_nil]
    have hda : ∀ dx : Addr, upd H1 a (exo a (He.ga X.K c) none) dx = none → dx ≠ a → H1 dx = none := fun dx q ne => by rw [upd_ne ne] at q; exact q
    refine ⟨a, vs, rfl, by rw [← r1.len]; exact hl, upd_same, E.T, E.no, fun dx n ne => ⟨rfl, dx, (fs.zip vs).reverse, ?_, upd_same, hda dx n ne, ?_⟩⟩
    · rw [upd_ne (Ne.symm ne), upd_same]
    · have hdn := hda dx n ne
      have eH : upd (del (upd (upd (upd (upd H1 a (exo a (He.ga X.K c) none)) dx (exd dx [])) a (exo a (He.ga X.K c) (some dx))) dx (exd dx (fs.zip vs).reverse)) a) dx (.xd (fs.zip vs).reverse) = upd H1 dx (.xd (fs.zip vs).reverse) := by
        funext b
        unfold upd del
        by_cases h1 : b = dx
        · simp [h1]
        · by_cases h2 : b = a
          · subst h2; simp [h1, hn]
          · simp [h1, h2]
      rw [eH]
      have st : Stb (kz X Z) H1 (upd H1 dx (.xd (fs.zip vs).reverse)) := stb_new hdn
      exact h1 σ dx _ ρ1 _ pre_refl st (S1.tup hdn) (e1.mono pre_refl st) upd_same ((zip_rel fs r1 hl).mono pre_refl st)
  · rw [if_neg hl] at h1; exact h1.elim
end

/-! ### try: body / except ..: suites -/
/-- what a clause does: the class, the name's slot, the suite by the error's class and fields -/
abbrev Hd := Str × Option Nat × (Str → List (Str × U) → Ev → Gp → SR)
def unE (i : Nat) (r : SR) : SR := match r with
  | .nx e G => .nx (e.set i none) G
  | .brk e G => .brk (e.set i none) G
  | .ct e G => .ct (e.set i none) G
  | .exc _ _ _ _ => .bad
  | r => r
def noExc (r : SR) : SR := match r with
  | .exc _ _ _ _ => .bad
  | r => r
def goH (as : List Str) (c : Str) (fs : List (Str × U)) (env : Ev) (G : Gp) : List Hd → SR
  | [] => .exc c fs env G
  | (h, none, s) :: r => if as.contains h = true then noExc (s c fs env G) else goH as c fs env G r
  | (h, some i, s) :: r => if as.contains h = true then unE i (s c fs (env.set i none) G) else goH as c fs env G r
def sTry (t : List (Str × List Str)) (body : Ev → Gp → SR) (hs : List Hd) : Ev → Gp → SR := fun env G => match body env G with
  | .exc c fs env' G' => match t.lookup c with
    | some as => goH as c fs env' G' hs
    | none => .bad
  | r => r
/-- the caught error: its class, where its fields stand -/
def zE {K : PySem.W.Frag} (Z : ZZ K) (er : Option (Nat × Addr)) (fs : List (Str × U)) (dd : Addr) : ZZ K where
  er := er
  P := fun ρ H => Z.P ρ H ∧ ∃ vfs, H dd = some (.xd vfs) ∧ RFs ⟨K, Z⟩ ρ H fs vfs
  st := fun ρ ρ' H H' p k ⟨h, vfs, e, r⟩ => ⟨Z.st ρ ρ' H H' p k h, vfs, k.xd _ _ e, RFs.mono (K := ⟨K, Z⟩) p k r⟩
section
variable {K : PySem.W.Frag} {Z Z' : ZZ K} {ρ : List Addr} {H : Hp}
mutual
theorem RU.zc : ∀ {u : U} {v : V}, RU ⟨K, Z⟩ ρ H u v → RU ⟨K, Z'⟩ ρ H u v
  | _, _, .non => .non
  | _, _, .bl b => .bl b
  | _, _, .int i => .int i
  | _, _, .str x => .str x
  | _, _, .ref h => .ref h
  | _, _, .tup h r => .tup h (RUs.zc r)
  | _, _, .rl h r => .rl h (RUs.zc r)
  | _, _, .wt h r => .wt h (RUs.zc r)
theorem RUs.zc : ∀ {u : List U} {v : List V}, RUs ⟨K, Z⟩ ρ H u v → RUs ⟨K, Z'⟩ ρ H u v
  | _, _, .nil => .nil
  | _, _, .cons h t => .cons (RU.zc h) (RUs.zc t)
end
theorem REq0.zc : ∀ {env : Ev} {σ : St}, REq0 ⟨K, Z⟩ ρ H env σ → REq0 ⟨K, Z'⟩ ρ H env σ
  | [], [], _ => trivial
  | none :: us, v :: vs, h => ⟨trivial, REq0.zc h.2⟩
  | some x :: us, some y :: vs, h => ⟨RU.zc h.1, REq0.zc h.2⟩
  | some x :: us, none :: vs, h => h.1.elim
theorem RFs.zc {fs : List (Str × U)} {vfs : List (Str × V)} (h : RFs ⟨K, Z⟩ ρ H fs vfs) : RFs ⟨K, Z'⟩ ρ H fs vfs := ⟨h.1, RUs.zc h.2⟩
theorem RKs.zc {κ : Type} {f : U → Option κ} : ∀ {kvs : List (U × U)} {vk : List (κ × V)}, RKs f ⟨K, Z⟩ ρ H kvs vk → RKs f ⟨K, Z'⟩ ρ H kvs vk
  | _, _, .nil => .nil
  | _, _, .cons hk r t => .cons hk (RU.zc r) (RKs.zc t)
theorem RO.zc {o : OU} {ho : HO} (h : RO ⟨K, Z⟩ ρ H o ho) : RO ⟨K, Z'⟩ ρ H o ho := by
  cases o <;> cases ho <;> first | exact h.elim | exact RUs.zc h | exact RKs.zc h | exact ⟨h.1, RFs.zc h.2⟩
theorem Sim.zc {G : Gp} (S : Sim ⟨K, Z⟩ ρ G H) (z : Z'.P ρ H) : Sim ⟨K, Z'⟩ ρ G H := ⟨S.len, S.nd, fun l o a h1 h2 => by
  obtain ⟨ho, e, r⟩ := S.ob l o a h1 h2
  exact ⟨ho, e, RO.zc r⟩, z⟩
end
theorem set_none_any {K : KZ} {ρ : List Addr} {H : Hp} (x : Option V) : ∀ {env : Ev} {σ : St}, REq0 K ρ H env σ → ∀ i : Nat, REq0 K ρ H (env.set i none) (σ.set i x)
  | [], [], _, _ => trivial
  | none :: us, v :: vs, h, 0 => ⟨trivial, h.2⟩
  | some _ :: us, some _ :: vs, h, 0 => ⟨trivial, h.2⟩
  | some x :: us, none :: vs, h, _ => h.1.elim
  | none :: us, v :: vs, h, i + 1 => ⟨h.1, set_none_any x h.2 i⟩
  | some _ :: us, some _ :: vs, h, i + 1 => ⟨h.1, set_none_any x h.2 i⟩
section
variable {X : Cx} {Z : ZZ X.K} {W : WX}
/-- the context of a suite: a the error, oe its object, of the class c; its dict at dd -/
abbrev SuX (X : Cx) (a : Addr) (oe : Obj) (pn : List (Addr × Obj)) : Cx := X.suite a ((a, oe) :: pn)
/-- the clauses' suites keep what their words tell -/
inductive FHs (X : Cx) (Z : ZZ X.K) (t : List (Str × List Str)) : List ExceptHandler → List Hd → Prop
  | nil : FHs X Z t [] []
  | cons {x : Str} {s : Str → List (Str × U) → Ev → Gp → SR} {b₀ : Stmt} {suite : List Stmt} {np pos' : Pos} {hds : List ExceptHandler} {l : List Hd} (hc : Names X x (.ref (He.ga X.K x))) (hx : ∀ c as, (c, as) ∈ t → PySem.W.exmOne X.K (.ref (He.ga X.K c)) (.ref (He.ga X.K x)) = some (as.contains x))
      (hsu : ∀ (a : Addr) (oe : Obj) (c : Str) (fs : List (Str × U)) (dd : Addr) (pn : List (Addr × Obj)), c ∈ t.map (·.1) → Zc (.ref (He.ga X.K c)) (some dd) oe → (∃ vs, oe.data = .fields vs) → FSs (SuX X a oe pn) (zE Z none fs dd) W0 (b₀ :: suite) (s c fs)) (r : FHs X Z t hds l) :
      FHs X Z t (.ExceptHandler (some (.Name x np)) none (b₀ :: suite) pos' :: hds) ((x, none, s) :: l)
  | as {x n : Str} {i : Nat} {s : Str → List (Str × U) → Ev → Gp → SR} {b₀ : Stmt} {suite : List Stmt} {np pos' : Pos} {hds : List ExceptHandler} {l : List Hd} (hc : Names X x (.ref (He.ga X.K x))) (hx : ∀ c as, (c, as) ∈ t → PySem.W.exmOne X.K (.ref (He.ga X.K c)) (.ref (He.ga X.K x)) = some (as.contains x))
      (hi : X.N[i]? = some n) (hln : X.env.kindOf n = some .local)
      (hsu : ∀ (a : Addr) (oe : Obj) (c : Str) (fs : List (Str × U)) (dd : Addr) (pn : List (Addr × Obj)), c ∈ t.map (·.1) → Zc (.ref (He.ga X.K c)) (some dd) oe → (∃ vs, oe.data = .fields vs) → FSs (SuX X a oe pn) (zE Z (some (i, a)) fs dd) W0 (b₀ :: suite) (s c fs)) (r : FHs X Z t hds l) :
      FHs X Z t (.ExceptHandler (some (.Name x np)) (some n) (b₀ :: suite) pos' :: hds) ((x, some i, s) :: l)
end
end FL

set_option Elab.async false
set_option linter.all false
set_option maxRecDepth 100000
set_option maxHeartbeats 4000000
set_option autoImplicit false
namespace FL
open PySem PySem.Spec L2

section
variable {X : Cx} {Z : ZZ X.K} {W : WX}
/-- what a suite wants: the error's class, dict and fields are known -/
def tsS (K : PySem.W.Frag) (Z : ZZ K) (t : List (Str × List Str)) (i : Option Nat) (s : Str → List (Str × U) → Ev → Gp → SR) : Sui := fun a cls d D σ H => ∃ c fs dd, cls = .ref (He.ga K c) ∧ d = some dd ∧ c ∈ t.map (·.1) ∧ tS ⟨K, zE Z (i.map fun i => (i, a)) fs dd⟩ W0 (s c fs) D σ H
def hdL (K : PySem.W.Frag) (Z : ZZ K) (t : List (Str × List Str)) : List Hd → List (Value × Option Nat × Sui)
  | [] => []
  | (x, i, s) :: r => (.ref (He.ga K x), i, tsS K Z t i s) :: hdL K Z t r
theorem hdsA_of {t : List (Str × List Str)} : ∀ {hds : List ExceptHandler} {l : List Hd}, FHs X Z t hds l → HdsA X hds (hdL X.K Z t l)
  | _, _, .nil => .nil
  | _, _, .cons hc hx hsu r => .cons hc (fun a oe cls d pn hz hf => ⟨fun pins s σ H D I h => by
      obtain ⟨c, fs, dd, rfl, rfl, hm, h⟩ := h
      exact (hsu a oe c fs dd pn hm hz hf).run pins s σ H D I h⟩) (hdsA_of r)
  | _, _, .as hc hx hi hln hsu r => .as hc hi hln (fun a oe cls d pn hz hf => ⟨fun pins s σ H D I h => by
      obtain ⟨c, fs, dd, rfl, rfl, hm, h⟩ := h
      exact (hsu a oe c fs dd pn hm hz hf).run pins s σ H D I h⟩) (hdsA_of r)
theorem sim_out {K : PySem.W.Frag} {Z : ZZ K} {er : Option (Nat × Addr)} {fs : List (Str × U)} {dd : Addr} {ρ : List Addr} {G : Gp} {H : Hp} (S : Sim ⟨K, zE Z er fs dd⟩ ρ G H) : Sim ⟨K, Z⟩ ρ G H := S.zc S.z.1
theorem req_out {K : PySem.W.Frag} {Z Z' : ZZ K} (hZ : Z.er = none) {ρ : List Addr} {H : Hp} {env : Ev} {σ : St} (e : REq ⟨K, Z'⟩ ρ H env σ) : REq ⟨K, Z⟩ ρ H env σ := ⟨e.1.zc, fun i a h => by have h : Z.er = some (i, a) := h; rw [hZ] at h; cases h⟩
theorem post_in {K : PySem.W.Frag} {Z : ZZ K} {er : Option (Nat × Addr)} {fs : List (Str × U)} {dd : Addr} (hZ : Z.er = none) {ρ : List Addr} {H : Hp} {r : SR} {D : Ends} {W : WX} (h : PostS ⟨K, Z⟩ ρ H (noExc r) D W) : PostS ⟨K, zE Z er fs dd⟩ ρ H r D W0 := by
  cases r with
  | nx e G => exact fun σ' ρ' H' p s S q => h σ' ρ' H' p s (sim_out S) (req_out hZ q)
  | brk e G => exact fun σ' ρ' H' p s S q => h σ' ρ' H' p s (sim_out S) (req_out hZ q)
  | ct e G => exact fun σ' ρ' H' p s S q => h σ' ρ' H' p s (sim_out S) (req_out hZ q)
  | ret u G => exact fun v ρ' H' p s S q => h v ρ' H' p s (sim_out S) q.zc
  | exc c fs e G => exact h.elim
  | bad => exact h
theorem post_in_as {K : PySem.W.Frag} {Z : ZZ K} {er : Option (Nat × Addr)} {fs : List (Str × U)} {dd : Addr} (hZ : Z.er = none) {ρ : List Addr} {H : Hp} {r : SR} {D : Ends} {W : WX} (i : Nat) (h : PostS ⟨K, Z⟩ ρ H (unE i r) D W) : PostS ⟨K, zE Z er fs dd⟩ ρ H r (D_un D i) W0 := by
  cases r with
  | nx e G => exact fun σ' ρ' H' p s S q => h _ ρ' H' p s (sim_out S) ((req_out hZ q).unset hZ i)
  | brk e G => exact fun σ' ρ' H' p s S q => h _ ρ' H' p s (sim_out S) ((req_out hZ q).unset hZ i)
  | ct e G => exact fun σ' ρ' H' p s S q => h _ ρ' H' p s (sim_out S) ((req_out hZ q).unset hZ i)
  | ret u G => exact fun v ρ' H' p s S q => h v ρ' H' p s (sim_out S) q.zc
  | exc c fs e G => exact h.elim
  | bad => exact h
theorem many_of {t : List (Str × List Str)} {c : Str} {as : List Str} {fs : List (Str × U)} {env : Ev} {G : Gp} {D : Ends} {ρ : List Addr} {H : Hp} {σ : St} {dd : Addr} {vfs : List (Str × V)} (hZ : Z.er = none) (hm : (c, as) ∈ t) (S : Sim (kz X Z) ρ G H) (e : REq (kz X Z) ρ H env σ) (ed : H dd = some (.xd vfs)) (rf : RFs (kz X Z) ρ H fs vfs) :
    ∀ {hds : List ExceptHandler} {l : List Hd}, FHs X Z t hds l → PostS (kz X Z) ρ H (goH as c fs env G l) D W → wManyA X.K W D (hdL X.K Z t l) (.ref (He.ga X.K c)) (some dd) σ H
  | _, _, .nil, h => h σ dd vfs ρ H pre_refl Stb.refl S e ed rf
  | _, _, .cons (x := x) (s := s) (l := l) hc hx hsu r, h => by
    have h : PostS (kz X Z) ρ H (if as.contains x = true then noExc (s c fs env G) else goH as c fs env G l) D W := h
    refine ⟨as.contains x, hx c as hm, fun hb a na => ?_, fun hb => ?_⟩
    · rw [if_pos hb] at h
      exact ⟨c, fs, dd, rfl, rfl, List.mem_map_of_mem (f := Prod.fst) hm, ρ, G, env, S.zc ⟨S.z, vfs, ed, rf⟩, ⟨e.1.zc, fun i a h => nomatch (show (none : Option (Nat × Addr)) = some (i, a) from h)⟩, post_in hZ h⟩
    · rw [if_neg (by rw [hb]; decide)] at h
      exact many_of hZ hm S e ed rf r h
  | _, _, .as (x := x) (i := i) (s := s) (l := l) hc hx hi hln hsu r, h => by
    have h : PostS (kz X Z) ρ H (if as.contains x = true then unE i (s c fs (env.set i none) G) else goH as c fs env G l) D W := h
    refine ⟨as.contains x, hx c as hm, fun hb a na => ?_, fun hb => ?_⟩
    · rw [if_pos hb] at h
      refine ⟨c, fs, dd, rfl, rfl, List.mem_map_of_mem (f := Prod.fst) hm, ρ, G, env.set i none, S.zc ⟨S.z, vfs, ed, rf⟩, ⟨(set_none_any _ e.1 i).zc, fun j b hj hn => ?_⟩, post_in_as hZ i h⟩
      have hj : some (i, a) = some (j, b) := hj
      cases hj
      have hl : i < env.length := by
        have := (List.getElem?_eq_some_iff.mp hn).1
        rwa [List.length_set] at this
      rw [List.getElem?_set_self (by rw [← e.1.len]; exact hl)]
    · rw [if_neg (by rw [hb]; decide)] at h
      exact many_of hZ hm S e ed rf r h
theorem mem_of_lookup' {t : List (Str × List Str)} {c : Str} {as : List Str} (h : t.lookup c = some as) : (c, as) ∈ t := PySem.mem_of_lookup h
theorem fstry {body : List Stmt} {h₀ : ExceptHandler} {hds : List ExceptHandler} {l : List Hd} {t : List (Str × List Str)} {g : Ev → Gp → SR} {pos : Pos} (hZ : Z.er = none) (hs : X.stack = X.env :: X.outer) (hf : X.env.frame = some X.env.locals) (hN : X.N.Nodup) (tk : Takes X W)
    (hb : ∀ (W' : WX) (pn : List (Addr × Obj)) (xe : Value → Shared → Prop), Takes (X.tr pn xe) W' → PassesOwn (model X.prog X.w) X.A X.env xe → FSs (X.tr pn xe) Z W' body g)
    (hh : FHs X Z t (h₀ :: hds) l) : FS X Z W (.Try body (h₀ :: hds) [] [] pos) (sTry t g l) := by
  refine PSimp (ps_try_A (tb := fun W' => tS (kz X Z) W' g) hs hf hN tk hb (hdsA_of hh)) fun D σ H ⟨ρ, G, env, S, e, h⟩ => ?_
  refine ⟨ρ, G, env, S, e, ?_⟩
  unfold sTry at h
  cases q : g env G with
  | nx e' G' => rw [q] at h; exact h
  | ret u G' => rw [q] at h; exact h
  | brk e' G' => rw [q] at h; exact h
  | ct e' G' => rw [q] at h; exact h
  | bad => rw [q] at h; exact h
  | exc c fs env' G' =>
    rw [q] at h
    simp only at h
    cases qt : t.lookup c with
    | none => rw [qt] at h; exact h.elim
    | some as =>
      rw [qt] at h
      intro σ' d vfs ρ' H' p s S' e' ed rf
      exact many_of hZ (mem_of_lookup' qt) S' e' ed rf hh (h.lift p s)
end
/-! ### the handled error: its fields, isinstance -/
def eXf (i : Nat) (fs : List (Str × U)) (f : Str) : Ev → Gp → R U := fun env G => match env[i]? with
  | some none => match fs.lookup f with
    | some u => .ok u G
    | none => .bad
  | _ => .bad
def eXis (i : Nat) (b : Bool) : Ev → Gp → R U := fun env G => match env[i]? with
  | some none => .ok (.bl b) G
  | _ => .bad
theorem lookup_rel {K : KZ} {ρ : List Addr} {H : Hp} {f : Str} {u : U} : ∀ {fs : List (Str × U)} {vfs : List (Str × V)}, RFs K ρ H fs vfs → fs.lookup f = some u → ∃ v, vfs.lookup f = some v ∧ RU K ρ H u v
  | [], _, _, h => by simp at h
  | (g, x) :: fs, [], r, h => by have := r.1; simp at this
  | (g, x) :: fs, (g', y) :: vfs, r, h => by
    obtain ⟨r1, r2⟩ := r
    simp only [List.map_cons, List.cons.injEq] at r1 r2
    obtain ⟨rfl, r1⟩ := r1
    cases r2 with
    | cons hx ht =>
      rw [List.lookup_cons] at h ⊢
      by_cases hg : (f == g) = true
      · rw [hg] at h ⊢
        cases h
        exact ⟨y, rfl, hx⟩
      · have hg : (f == g) = false := by simpa using hg
        rw [hg] at h ⊢
        exact lookup_rel (fs := fs) (vfs := vfs) ⟨r1, ht⟩ h
/-- what the written part says of a class of errors, for its fields and isinstance -/
structure XiK (K : PySem.W.Frag) (C : Addr) : Prop where
  xf : XfC K C
  ha : PySem.W.findIn K (.ref C) "__class__" = some (some (.builtin "object.__class__"))
  hn : PySem.W.specialIn K (.builtin "object.__class__") "__get__" = some (some (.builtin "getset_descriptor.__get__"))
  ht : PySem.W.takesIn K (.builtin "object.__class__") = some true
  hm : PySem.W.mroIn K C (.type "object") = some true
def xiB (K : PySem.W.Frag) (C : Addr) : Bool := xfB K C && (decide (PySem.W.findIn K (.ref C) "__class__" = some (some (.builtin "object.__class__"))) && (decide (PySem.W.specialIn K (.builtin "object.__class__") "__get__" = some (some (.builtin "getset_descriptor.__get__"))) &&
  (decide (PySem.W.takesIn K (.builtin "object.__class__") = some true) && decide (PySem.W.mroIn K C (.type "object") = some true))))
theorem xiB_ok {K : PySem.W.Frag} {C : Addr} (h : xiB K C = true) : XiK K C := by
  obtain ⟨h1, h⟩ := Bool.and_eq_true_iff.mp h
  obtain ⟨h2, h⟩ := Bool.and_eq_true_iff.mp h
  obtain ⟨h3, h⟩ := Bool.and_eq_true_iff.mp h
  obtain ⟨h4, h5⟩ := Bool.and_eq_true_iff.mp h
  exact ⟨xfB_ok h1, of_decide_eq_true h2, of_decide_eq_true h3, of_decide_eq_true h4, of_decide_eq_true h5⟩
section
variable {X : Cx} {Z : ZZ X.K} {W : WX} {a : Addr} {oe : Obj} {c : Str} {fs : List (Str × U)} {dd : Addr} {pn : List (Addr × Obj)} {i : Nat} {n f : Str} {p pos : Pos}
theorem tErr {Z : ZZ X.K} {W : WX} {σ : St} {H : Hp} {ρ : List Addr} {env : Ev} (e : REq (kz X (zE Z (some (i, a)) fs dd)) ρ H env σ) (hq : env[i]? = some none) : σ[i]? = some (some (.ref a)) := e.2 i a rfl hq
theorem fxf (T : XfC X.K (He.ga X.K c)) (hno : PySem.W.findIn X.K (.ref (He.ga X.K c)) f = some none) (hz : Zc (.ref (He.ga X.K c)) (some dd) oe) (hf : ∃ vs, oe.data = .fields vs)
    (hN : X.N[i]? = some n := by rfl) (hv : Vis X.env.scope n := by first | exact Or.inl rfl | exact Or.inr (Or.inl rfl) | exact Or.inr (Or.inr rfl)) (hd : (n == ("__debug__" : Str)) = false := by decide) (hcd : (n == ("__classdict__" : Str)) = false := by decide)
    (hb : attributeBase (.Name n p) f X.env (eval (.Name n p) X.env) = eval (.Name n p) X.env := by rfl) : FE (SuX X a oe pn) (zE Z (some (i, a)) fs dd) W (.Attribute (.Name n p) f pos) (eXf i fs f) := by
  refine PEimp (pe_xf (te := tVar i) T hno hz hf (pe_var (X := SuX X a oe pn) hN hv hd hcd) hb) fun σ H Q ⟨ρ, G, env, S, e, h⟩ => ?_
  unfold eXf at h
  cases q : env[i]? with
  | none => rw [q] at h; exact h.elim
  | some o =>
    cases o with
    | some _ => rw [q] at h; exact h.elim
    | none =>
      rw [q] at h
      simp only at h
      cases q2 : fs.lookup f with
      | none => rw [q2] at h; exact h.elim
      | some u =>
        rw [q2] at h
        obtain ⟨_, vfs, ed, rf⟩ := S.z
        obtain ⟨v, ev, rv⟩ := lookup_rel rf q2
        exact ⟨.ref a, e.2 i a rfl q, rfl, rfl, dd, vfs, v, rfl, ed, ev, h.end_ S rv.zc⟩
/-- isinstance of the handled error -/
def rXis (K : PySem.W.Frag) (a C dd : Addr) : List V → Hp → VK → Prop := fun xs H Q => (∃ vfs, H dd = some (.xd vfs)) ∧
  ((∃ (c : V) (cv : Value) (b : Bool), xs = [.ref a, c] ∧ ClsV c cv ∧ PySem.W.kitOne K (.ref C) cv = some b ∧ Q (.bl b) H) ∨
    (∃ (tp : Addr) (cs : List V) (us : List Value) (b : Bool), xs = [.ref a, .ref tp] ∧ H tp = some (.tup cs) ∧ Paired ClsV cs us ∧ PySem.W.kitAny K (.ref C) us = some b ∧ Q (.bl b) H))
theorem call_xis {C : Addr} (T : XiK X.K C) (hz : Zc (.ref C) (some dd) oe) (hf : ∃ vs, oe.data = .fields vs) : CallR (SuX X a oe pn) (.builtin "isinstance") (rXis X.K a C dd) := by
  intro pins s σ H xs us Q I r h
  obtain ⟨⟨vfs, ed⟩, h⟩ := h
  obtain ⟨hget, _⟩ := I.pin (a, oe) (List.mem_append.mpr (.inl List.mem_cons_self))
  obtain ⟨vs, hv⟩ := hf
  obtain ⟨mA, hns, _⟩ := (show ObjOk X.prog X.w H s.heap dd (.xd vfs) from I.hok dd _ ed)
  obtain ⟨od, ho, hl⟩ := lookIn_ns hns
  have J : PySem.W.InstAt s.heap a oe C (some od) := ⟨hget, hz.1, by unfold PySem.W.notCls; rw [hv] <;> rfl, by rw [hz.2]; exact ho⟩
  have hcl : (PySem.W.clsIn X.K C).isSome = true := by obtain ⟨cd, hc, _⟩ := PySem.W.any_some T.xf.hdC; rw [hc]; rfl
  have kit : PySem.W.KitX X.K (.ref a) (.ref C) (fun h => PySem.W.InstAt h a oe C (some od)) := PySem.W.kitx_exc hcl T.xf.ga T.xf.gg T.xf.exC T.ha T.hn T.ht T.hm
  rcases h with ⟨c, cv, b, rfl, hcv, e, q⟩ | ⟨tp, cs, ws, b, rfl, hT, k, e, q⟩
  · obtain ⟨u1, u2, rfl, r1, r2⟩ := vals2 r
    cases (show u1 = Value.ref a from r1)
    have ec := hcv.eq r2
    subst ec
    exact PySem.W.kia_one kit I.kIn J e (fun z => nomatch z) fun tk => ⟨.bl b, H, I.tok tk, rfl, q⟩
  · obtain ⟨u1, u2, rfl, r1, r2⟩ := vals2 r
    cases (show u1 = Value.ref a from r1)
    cases (show u2 = Value.ref tp from r2)
    obtain ⟨_, its, rv, o, h1, h2, n, h3⟩ := (show ObjOk X.prog X.w H s.heap tp (.tup cs) from I.hok tp _ hT)
    have e3 := ClsV.all k rv
    subst e3
    obtain ⟨oc, od', dt, sl⟩ := o
    simp only at h2 h3
    subst h2 h3
    exact PySem.W.kia_tup kit I.kIn J h1 e (fun z => nomatch z) fun tk => ⟨.bl b, H, I.tok tk, rfl, q⟩
/-- a row of classes, written -/
def tCs (vs : List V) : TA := fun _ H Q => Q vs H
theorem pcs_nil {X : Cx} : PA X [] (tCs []) := pa_nil
theorem pcs_cons {X : Cx} {e : Expr} {es : List Expr} {v : V} {vs : List V} (h : PE X e (tC v)) (t : PA X es (tCs vs)) (hs : starEach (e :: es) X.env = (false, eval e X.env) :: starEach es X.env := by rfl) : PA X (e :: es) (tCs (v :: vs)) := pa_cons h t hs
theorem fxis1 {t : Expr} {cv : V} {cval : Value} {b : Bool} {p2 : Pos} (T : XiK X.K (He.ga X.K c)) (hz : Zc (.ref (He.ga X.K c)) (some dd) oe) (hf : ∃ vs, oe.data = .fields vs) (hm : X.mg "isinstance" = none) (ht : PE (SuX X a oe pn) t (tC cv)) (hcv : ClsV cv cval) (hb : PySem.W.kitOne X.K (.ref (He.ga X.K c)) cval = some b)
    (hg : Gl X "isinstance" := by rfl) (hN : X.N[i]? = some n := by rfl) (hv : Vis X.env.scope n := by first | exact Or.inl rfl | exact Or.inr (Or.inl rfl) | exact Or.inr (Or.inr rfl)) (hd : (n == ("__debug__" : Str)) = false := by decide) (hcd : (n == ("__classdict__" : Str)) = false := by decide)
    (he : starEach [.Name n p, t] X.env = (false, eval (.Name n p) X.env) :: starEach [t] X.env := by rfl) (he2 : starEach [t] X.env = (false, eval t X.env) :: starEach [] X.env := by rfl) (hpl : (backTo pos (starEach [t] X.env)).any (·.1) = false := by rfl) :
    FE (SuX X a oe pn) (zE Z (some (i, a)) fs dd) W (.Call (.Name "isinstance" p2) [.Name n p, t] [] pos) (eXis i b) := by
  refine PEimp (pe_callB (t := tCons (tVar i) (tCs [cv])) (call_xis T hz hf) hg hm (by decide +kernel) (pa_cons (pe_var (X := SuX X a oe pn) hN hv hd hcd) (pcs_cons ht pcs_nil he2) he) (by decide) (by decide) he hpl) fun σ H Q ⟨ρ, G, env, S, e, h⟩ => ?_
  unfold eXis at h
  cases q : env[i]? with
  | none => rw [q] at h; exact h.elim
  | some o =>
    cases o with
    | some _ => rw [q] at h; exact h.elim
    | none =>
      rw [q] at h
      obtain ⟨_, vfs, ed, rf⟩ := S.z
      exact ⟨.ref a, e.2 i a rfl q, ⟨vfs, ed⟩, .inl ⟨cv, cval, b, rfl, hcv, hb, h.end_ S (.bl _)⟩⟩
theorem fxisT {ts : List Expr} {cvs : List V} {cvals : List Value} {b : Bool} {p2 p3 : Pos} {k3 : Nat} (T : XiK X.K (He.ga X.K c)) (hz : Zc (.ref (He.ga X.K c)) (some dd) oe) (hf : ∃ vs, oe.data = .fields vs) (hm : X.mg "isinstance" = none) (ht : PA (SuX X a oe pn) ts (tCs cvs)) (hcv : Paired ClsV cvs cvals) (hb : PySem.W.kitAny X.K (.ref (He.ga X.K c)) cvals = some b) (hl : cvs.length ≤ sizeLine)
    (hg : Gl X "isinstance" := by rfl) (hN : X.N[i]? = some n := by rfl) (hv : Vis X.env.scope n := by first | exact Or.inl rfl | exact Or.inr (Or.inl rfl) | exact Or.inr (Or.inr rfl)) (hd : (n == ("__debug__" : Str)) = false := by decide) (hcd : (n == ("__classdict__" : Str)) = false := by decide)
    (he : starEach [.Name n p, .Tuple ts k3 p3] X.env = (false, eval (.Name n p) X.env) :: starEach [.Tuple ts k3 p3] X.env := by rfl) (he2 : starEach [.Tuple ts k3 p3] X.env = (false, eval (.Tuple ts k3 p3) X.env) :: starEach [] X.env := by rfl) (hpl : (backTo pos (starEach [.Tuple ts k3 p3] X.env)).any (·.1) = false := by rfl) :
    FE (SuX X a oe pn) (zE Z (some (i, a)) fs dd) W (.Call (.Name "isinstance" p2) [.Name n p, .Tuple ts k3 p3] [] pos) (eXis i b) := by
  refine PEimp (pe_callB (t := tCons (tVar i) (tCons (tTup (tCs cvs)) tNil)) (call_xis T hz hf) hg hm (by decide +kernel) (pa_cons (pe_var (X := SuX X a oe pn) hN hv hd hcd) (pa_cons (pe_tup ht) pa_nil he2) he) (by decide) (by decide) he hpl) fun σ H Q ⟨ρ, G, env, S, e, h⟩ => ?_
  unfold eXis at h
  cases q : env[i]? with
  | none => rw [q] at h; exact h.elim
  | some o =>
    cases o with
    | some _ => rw [q] at h; exact h.elim
    | none =>
      rw [q] at h
      obtain ⟨_, vfs, ed, rf⟩ := S.z
      refine ⟨.ref a, e.2 i a rfl q, hl, fun tp hn => ⟨⟨vfs, by rw [upd_ne (ne_of_none ed hn)]; exact ed⟩, .inr ⟨tp, cvs, cvals, b, rfl, upd_same, hcv, hb, ?_⟩⟩⟩
      have st : Stb (kz X (zE Z (some (i, a)) fs dd)) H (upd H tp (.tup cvs)) := stb_new hn
      exact Post.end_ (Post.lift h pre_refl st) (S.tup hn) (.bl _)
end
/-! ### isinstance of values -/
def tyN (G : Gp) (u : U) : Option String := match u with
  | .non => some "NoneType"
  | .bl _ => some "bool"
  | .int _ => some "int"
  | .str _ => some "str"
  | .tup _ => some "tuple"
  | .rl _ => some "list"
  | .wt _ => some "tuple"
  | .ref l => match G[l]? with
    | some (.lst _) => some "list"
    | _ => none
def eIs (tbl : List (String × Bool)) (f : Ev → Gp → R U) : Ev → Gp → R U := fun env G => (f env G).bind fun u G1 => match tyN G1 u with
  | some n => match tbl.lookup n with
    | some b => .ok (.bl b) G1
    | none => .bad
  | none => .bad
theorem mem_of_lookupS {n : String} {b : Bool} : ∀ {tbl : List (String × Bool)}, tbl.lookup n = some b → (n, b) ∈ tbl
  | [], h => by simp at h
  | (m, c) :: r, h => by
    rw [List.lookup_cons] at h
    by_cases hm : (n == m) = true
    · rw [hm] at h
      cases h
      rw [eq_of_beq hm]
      exact List.mem_cons_self
    · have hm : (n == m) = false := by simpa using hm
      rw [hm] at h
      exact List.mem_cons_of_mem _ (mem_of_lookupS h)
theorem tyN_ok {K : KZ} {ρ : List Addr} {G : Gp} {H : Hp} {u : U} {v : V} {n : String} (S : Sim K ρ G H) (r : RU K ρ H u v) (h : tyN G u = some n) : TyX K.K H v (.type n) := by
  cases r with
  | non => cases h; exact .base .non
  | bl b => cases h; exact .base (.bl b)
  | int i => cases h; exact .base (.int i)
  | str x => cases h; exact .base (.str x)
  | tup ht _ =>
    cases h
    exact .base (.tup ht)
  | wt ht _ =>
    cases h
    obtain ⟨o, its, n, hk, hc, _⟩ := ht
    exact .kTuple hk hc
  | rl ht _ =>
    cases h
    rcases ht with ⟨o, ht⟩ | ⟨o, its, n, hk, hc, _⟩
    · exact .base (.frz ht)
    · exact .kList hk hc
  | @ref l a ha =>
    unfold tyN at h
    simp only at h
    cases q : G[l]? with
    | none => rw [q] at h; exact nomatch h
    | some o =>
      rw [q] at h
      cases o with
      | lst xs =>
        cases h
        obtain ⟨vs, e, _⟩ := S.list ha q
        exact .base (.lst e)
      | _ => exact nomatch h
section
variable {X : Cx} {Z : ZZ X.K} {W : WX} {e t : Expr} {f : Ev → Gp → R U} {p2 p3 pos : Pos} {tbl : List (String × Bool)}
theorem fis1 {cv : V} {cval : Value} (hm : X.mg "isinstance" = none) (he : FE X Z W e f) (ht : PE X t (tC cv)) (hcv : ClsV cv cval) (hb : ∀ n b, (n, b) ∈ tbl → PySem.W.kitOne X.K (.type n) cval = some b)
    (hg : Gl X "isinstance" := by rfl) (hs : starEach [e, t] X.env = (false, eval e X.env) :: starEach [t] X.env := by rfl) (hs2 : starEach [t] X.env = (false, eval t X.env) :: starEach [] X.env := by rfl) (hpl : (backTo pos (starEach [t] X.env)).any (·.1) = false := by rfl) :
    FE X Z W (.Call (.Name "isinstance" p2) [e, t] [] pos) (eIs tbl f) := by
  refine PEimp (pe_callB (t := tCons (tF (kz X Z) W f) (tCs [cv])) call_isi hg hm (by decide +kernel) (pa_cons he (pcs_cons ht pcs_nil hs2) hs) (by decide) (by decide) hs hpl) fun σ H Q ⟨ρ, G, env, S, e, h⟩ => ?_
  refine tG_mono (step S e h) fun v H1 ⟨ρ1, G1, x, p1, s1, S1, e1, r1, h1⟩ => ?_
  cases q : tyN G1 x with
  | none => rw [q] at h1; exact h1.elim
  | some n =>
    rw [q] at h1
    simp only at h1
    cases q2 : tbl.lookup n with
    | none => rw [q2] at h1; exact h1.elim
    | some b => rw [q2] at h1; exact ⟨v, cv, .type n, cval, b, rfl, hcv, tyN_ok S1 r1 q, hb n b (mem_of_lookupS q2), h1.end_ S1 (.bl _)⟩
theorem fisT {ts : List Expr} {cvs : List V} {cvals : List Value} {k3 : Nat} (hm : X.mg "isinstance" = none) (he : FE X Z W e f) (ht : PA X ts (tCs cvs)) (hcv : Paired ClsV cvs cvals) (hb : ∀ n b, (n, b) ∈ tbl → PySem.W.kitAny X.K (.type n) cvals = some b) (hl : cvs.length ≤ sizeLine)
    (hg : Gl X "isinstance" := by rfl) (hs : starEach [e, .Tuple ts k3 p3] X.env = (false, eval e X.env) :: starEach [.Tuple ts k3 p3] X.env := by rfl) (hs2 : starEach [.Tuple ts k3 p3] X.env = (false, eval (.Tuple ts k3 p3) X.env) :: starEach [] X.env := by rfl) (hpl : (backTo pos (starEach [.Tuple ts k3 p3] X.env)).any (·.1) = false := by rfl) :
    FE X Z W (.Call (.Name "isinstance" p2) [e, .Tuple ts k3 p3] [] pos) (eIs tbl f) := by
  refine PEimp (pe_callB (t := tCons (tF (kz X Z) W f) (tCons (tTup (tCs cvs)) tNil)) call_isiT hg hm (by decide +kernel) (pa_cons he (pa_cons (pe_tup ht) pa_nil hs2) hs) (by decide) (by decide) hs hpl) fun σ H Q ⟨ρ, G, env, S, e, h⟩ => ?_
  refine tG_mono (step S e h) fun v H1 ⟨ρ1, G1, x, p1, s1, S1, e1, r1, h1⟩ => ?_
  cases q : tyN G1 x with
  | none => rw [q] at h1; exact h1.elim
  | some n =>
    rw [q] at h1
    simp only at h1
    cases q2 : tbl.lookup n with
    | none => rw [q2] at h1; exact h1.elim
    | some b =>
      rw [q2] at h1
      refine ⟨hl, fun tp hn => ?_⟩
      have st : Stb (kz X Z) H1 (upd H1 tp (.tup cvs)) := stb_new hn
      exact ⟨v, tp, cvs, .type n, cvals, b, rfl, upd_same, hcv, tyN_ok (S1.tup hn) (r1.mono pre_refl st) q, hb n b (mem_of_lookupS q2), Post.end_ (Post.lift h1 pre_refl st) (S1.tup hn) (.bl _)⟩
end
/-! the usual classes -/
def tyAll (p : String → Bool) : List (String × Bool) := ["NoneType", "bool", "int", "str", "tuple", "list", "dict"].map fun n => (n, p n)
def tbInt := tyAll fun n => n == "int" || n == "bool"
def tbBool := tyAll fun n => n == "bool"
def tbStr := tyAll fun n => n == "str"
def tbTup := tyAll fun n => n == "tuple"
def tbLst := tyAll fun n => n == "list"
def tbSeq := tyAll fun n => n == "tuple" || n == "list"
section
variable {K : PySem.W.Frag}
theorem kOne {c : String} {tbl : List (String × Bool)} (h : tbl.all (fun p => kitB p.1 c == some p.2) = true) : ∀ n b, (n, b) ∈ tbl → PySem.W.kitOne K (.type n) (.type c) = some b := fun n b hm => kit_ty (beq_iff_eq.mp (List.all_eq_true.mp h (n, b) hm))
def kitBs (a : String) : List String → Option Bool
  | [] => some false
  | c :: r => match kitB a c with
    | some true => some true
    | some false => kitBs a r
    | none => none
theorem kitBs_ok {a : String} : ∀ {cs : List String} {b : Bool}, kitBs a cs = some b → PySem.W.kitAny K (.type a) (cs.map Value.type) = some b
  | [], b, h => h
  | c :: r, b, h => by
    unfold kitBs at h
    rw [List.map_cons]
    unfold PySem.W.kitAny
    cases q : kitB a c with
    | none => rw [q] at h; exact nomatch h
    | some k =>
      rw [q] at h
      rw [kit_ty (K := K) q]
      cases k with
      | true => exact h
      | false => exact kitBs_ok h
theorem kAny {cs : List String} {tbl : List (String × Bool)} (h : tbl.all (fun p => kitBs p.1 cs == some p.2) = true) : ∀ n b, (n, b) ∈ tbl → PySem.W.kitAny K (.type n) (cs.map Value.type) = some b := fun n b hm => kitBs_ok (beq_iff_eq.mp (List.all_eq_true.mp h (n, b) hm))
theorem kInt : ∀ n b, (n, b) ∈ tbInt → PySem.W.kitOne K (.type n) (.type "int") = some b := kOne (by decide +kernel)
theorem kBool : ∀ n b, (n, b) ∈ tbBool → PySem.W.kitOne K (.type n) (.type "bool") = some b := kOne (by decide +kernel)
theorem kStr : ∀ n b, (n, b) ∈ tbStr → PySem.W.kitOne K (.type n) (.type "str") = some b := kOne (by decide +kernel)
theorem kTup : ∀ n b, (n, b) ∈ tbTup → PySem.W.kitOne K (.type n) (.type "tuple") = some b := kOne (by decide +kernel)
theorem kLst : ∀ n b, (n, b) ∈ tbLst → PySem.W.kitOne K (.type n) (.type "list") = some b := kOne (by decide +kernel)
theorem kTL : ∀ n b, (n, b) ∈ tbSeq → PySem.W.kitAny K (.type n) (["tuple", "list"].map Value.type) = some b := kAny (by decide +kernel)
theorem kLT : ∀ n b, (n, b) ∈ tbSeq → PySem.W.kitAny K (.type n) (["list", "tuple"].map Value.type) = some b := kAny (by decide +kernel)
end
section
variable {X : Cx} {Z : ZZ X.K} {W : WX} {e : Expr} {f : Ev → Gp → R U} {p2 p3 p4 p5 pos : Pos}
theorem clsTy {x : Str} {T : String} (hm : X.mg x = none) (hv : bootBuiltins x = some (.type T)) (hg : Gl X x) (hn : x ≠ "__name__") (hd : (x == ("__debug__" : Str)) = false) : PE X (.Name x p2) (tC (.ty T)) := pe_bltn hg hm hv rfl hn hd
theorem fisInt (hm : X.mg "isinstance" = none) (hi : X.mg "int" = none) (he : FE X Z W e f) (hg : Gl X "isinstance" := by rfl) (hgi : Gl X "int" := by rfl) (hs : starEach [e, .Name "int" p3] X.env = (false, eval e X.env) :: starEach [.Name "int" p3] X.env := by rfl) (hs2 : starEach [.Name "int" p3] X.env = (false, eval (.Name "int" p3) X.env) :: starEach [] X.env := by rfl) (hpl : (backTo pos (starEach [.Name "int" p3] X.env)).any (·.1) = false := by rfl) :
    FE X Z W (.Call (.Name "isinstance" p2) [e, .Name "int" p3] [] pos) (eIs tbInt f) := fis1 hm he (clsTy hi (by decide +kernel) hgi (by decide) (by decide)) (.ty _) kInt hg hs hs2 hpl
theorem fisBool (hm : X.mg "isinstance" = none) (hi : X.mg "bool" = none) (he : FE X Z W e f) (hg : Gl X "isinstance" := by rfl) (hgi : Gl X "bool" := by rfl) (hs : starEach [e, .Name "bool" p3] X.env = (false, eval e X.env) :: starEach [.Name "bool" p3] X.env := by rfl) (hs2 : starEach [.Name "bool" p3] X.env = (false, eval (.Name "bool" p3) X.env) :: starEach [] X.env := by rfl) (hpl : (backTo pos (starEach [.Name "bool" p3] X.env)).any (·.1) = false := by rfl) :
    FE X Z W (.Call (.Name "isinstance" p2) [e, .Name "bool" p3] [] pos) (eIs tbBool f) := fis1 hm he (clsTy hi (by decide +kernel) hgi (by decide) (by decide)) (.ty _) kBool hg hs hs2 hpl
theorem fisStr (hm : X.mg "isinstance" = none) (hi : X.mg "str" = none) (he : FE X Z W e f) (hg : Gl X "isinstance" := by rfl) (hgi : Gl X "str" := by rfl) (hs : starEach [e, .Name "str" p3] X.env = (false, eval e X.env) :: starEach [.Name "str" p3] X.env := by rfl) (hs2 : starEach [.Name "str" p3] X.env = (false, eval (.Name "str" p3) X.env) :: starEach [] X.env := by rfl) (hpl : (backTo pos (starEach [.Name "str" p3] X.env)).any (·.1) = false := by rfl) :
    FE X Z W (.Call (.Name "isinstance" p2) [e, .Name "str" p3] [] pos) (eIs tbStr f) := fis1 hm he (clsTy hi (by decide +kernel) hgi (by decide) (by decide)) (.ty _) kStr hg hs hs2 hpl
theorem fisTuple (hm : X.mg "isinstance" = none) (hi : X.mg "tuple" = none) (he : FE X Z W e f) (hg : Gl X "isinstance" := by rfl) (hgi : Gl X "tuple" := by rfl) (hs : starEach [e, .Name "tuple" p3] X.env = (false, eval e X.env) :: starEach [.Name "tuple" p3] X.env := by rfl) (hs2 : starEach [.Name "tuple" p3] X.env = (false, eval (.Name "tuple" p3) X.env) :: starEach [] X.env := by rfl) (hpl : (backTo pos (starEach [.Name "tuple" p3] X.env)).any (·.1) = false := by rfl) :
    FE X Z W (.Call (.Name "isinstance" p2) [e, .Name "tuple" p3] [] pos) (eIs tbTup f) := fis1 hm he (clsTy hi (by decide +kernel) hgi (by decide) (by decide)) (.ty _) kTup hg hs hs2 hpl
theorem fisList (hm : X.mg "isinstance" = none) (hi : X.mg "list" = none) (he : FE X Z W e f) (hg : Gl X "isinstance" := by rfl) (hgi : Gl X "list" := by rfl) (hs : starEach [e, .Name "list" p3] X.env = (false, eval e X.env) :: starEach [.Name "list" p3] X.env := by rfl) (hs2 : starEach [.Name "list" p3] X.env = (false, eval (.Name "list" p3) X.env) :: starEach [] X.env := by rfl) (hpl : (backTo pos (starEach [.Name "list" p3] X.env)).any (·.1) = false := by rfl) :
    FE X Z W (.Call (.Name "isinstance" p2) [e, .Name "list" p3] [] pos) (eIs tbLst f) := fis1 hm he (clsTy hi (by decide +kernel) hgi (by decide) (by decide)) (.ty _) kLst hg hs hs2 hpl
theorem fisTL {k3 : Nat} (hm : X.mg "isinstance" = none) (hi : X.mg "tuple" = none) (hl : X.mg "list" = none) (he : FE X Z W e f) (hg : Gl X "isinstance" := by rfl) (hgi : Gl X "tuple" := by rfl) (hgl : Gl X "list" := by rfl)
    (hs : starEach [e, .Tuple [.Name "tuple" p3, .Name "list" p4] k3 p5] X.env = (false, eval e X.env) :: starEach [.Tuple [.Name "tuple" p3, .Name "list" p4] k3 p5] X.env := by rfl) (hs2 : starEach [.Tuple [.Name "tuple" p3, .Name "list" p4] k3 p5] X.env = (false, eval (.Tuple [.Name "tuple" p3, .Name "list" p4] k3 p5) X.env) :: starEach [] X.env := by rfl)
    (hs3 : starEach [.Name "tuple" p3, .Name "list" p4] X.env = (false, eval (.Name "tuple" p3) X.env) :: starEach [.Name "list" p4] X.env := by rfl) (hs4 : starEach [.Name "list" p4] X.env = (false, eval (.Name "list" p4) X.env) :: starEach [] X.env := by rfl) (hpl : (backTo pos (starEach [.Tuple [.Name "tuple" p3, .Name "list" p4] k3 p5] X.env)).any (·.1) = false := by rfl) :
    FE X Z W (.Call (.Name "isinstance" p2) [e, .Tuple [.Name "tuple" p3, .Name "list" p4] k3 p5] [] pos) (eIs tbSeq f) :=
  fisT hm he (pcs_cons (clsTy hi (by decide +kernel) hgi (by decide) (by decide)) (pcs_cons (clsTy hl (by decide +kernel) hgl (by decide) (by decide)) pcs_nil hs4) hs3) (.cons (.ty _) (.cons (.ty _) .nil)) kTL (by show 2 ≤ sizeLine; rw [line_eq]; decide) hg hs hs2 hpl
end
end FL

set_option Elab.async false
set_option linter.all false
set_option maxRecDepth 100000
set_option maxHeartbeats 4000000
/-! enumerate(tuple): the tuple's twin of the layer's enumerate(list) -/
namespace PySem
set_option maxHeartbeats 4000000 in
theorem meets_enumerate_newT (l : Addr) (items : Array Value) (n : Nat) (dct : Option Addr) (sl : Array (Option Value)) :
    Meets (Builtin.«enumerate.__new__» ⟨[.type "enumerate", .ref l], []⟩) (fun _ R s => s.heap.get? l = some { cls := .type "tuple", dict := dct, data := .seq items n, slots := sl } ∧
      R (.ok (.ret (.ref (s.heap.push { cls := .type "tuple_iterator", data := .fields #[.ref l, .int 0 0] }).objs.size)))
        { s with heap := (s.heap.push { cls := .type "tuple_iterator", data := .fields #[.ref l, .int 0 0] }).push { cls := .type "enumerate", data := .fields #[.none, .bool false, .ref s.heap.objs.size, rawInt 0, .none, .none] } }) :=
  .of_wp fun prog w A R s h => by
    obtain ⟨hp, g, d, tk, os⟩ := s; obtain ⟨hl, h⟩ := h
    have hsub := sub_enumerate
    have hL : Heap.IsTuple (Shared.heap ⟨hp, g, d, tk, os⟩) l items := ⟨_, hl, rfl, n, rfl⟩
    wp_walk using wpAny_loadPart' hl
    refine wpAny_stack_any fun st => wpAny_pure ?_
    split
    · rename_i c _ _ _ _ _
      cases (c == Value.type "enumerate")
      · wp_walk using wpAny_loadPart' hl, wpAny_pyIter_tuple hL
        exact ⟨_, rfl, h⟩
      · wp_walk using wpAny_loadPart' hl, wpAny_pyIter_tuple hL
        exact ⟨_, rfl, h⟩
    · wp_walk using wpAny_loadPart' hl, wpAny_pyIter_tuple hL
      exact ⟨_, rfl, h⟩
section
variable {prog : Program} {w : World} {A : Around} {E : Value → Shared → Prop} {s : Shared}
theorem call_enumerate_tuple {l : Addr} {items : Array Value} {Q : Value → Shared → Prop} (hL : s.heap.IsTuple l items)
    (h : ∀ h', IsEnum h' (s.heap.objs.size + 1) s.heap.objs.size 0 .none → h'.IsTupleIter s.heap.objs.size l 0 → h'.objs.size = s.heap.objs.size + 2 →
      (∀ b o, s.heap.get? b = some o → h'.get? b = some o) → Q (.ref (s.heap.objs.size + 1)) { s with heap := h' }) :
    wpAny (model prog w) A (call (.type "enumerate") [.ref l]) Q E s := by
  obtain ⟨⟨c, dct, dt, sl⟩, hl, hc, n, hd⟩ := hL
  replace hc : c = .type "tuple" := hc
  replace hd : dt = .seq items n := hd
  subst hc hd
  refine callType_new F.called_enumerate (by decide) (F.typeCall_enumerate_1 _) (F.newCall_enumerate_1 _) (fun obj => F.args_object_init_2 obj _) F.entry_enumerate_new
    (meets_enumerate_newT l items n dct sl) ⟨hl, ?_⟩
  have hz : (s.heap.push { cls := .type "tuple_iterator", data := .fields #[.ref l, .int 0 0] }).objs.size = s.heap.objs.size + 1 := Heap.size_push ..
  show _ ∧ _
  rw [hz]
  have he : IsEnum ((s.heap.push { cls := .type "tuple_iterator", data := .fields #[.ref l, .int 0 0] }).push
      { cls := .type "enumerate", data := .fields #[.none, .bool false, .ref s.heap.objs.size, rawInt 0, .none, .none] }) (s.heap.objs.size + 1) s.heap.objs.size 0 .none := by
    have := Heap.get?_push_size (s.heap.push { cls := .type "tuple_iterator", data := .fields #[.ref l, .int 0 0] })
      (o := { cls := .type "enumerate", data := .fields #[.none, .bool false, .ref s.heap.objs.size, rawInt 0, .none, .none] }) rfl
    rw [hz] at this
    exact this
  refine ⟨⟨_, he, rfl⟩, h _ he ⟨_, Heap.get?_push_of_some _ (Heap.get?_push_size _ rfl), rfl, rfl⟩ (by rw [Heap.size_push, hz]) fun b o e => Heap.get?_push_of_some _ (Heap.get?_push_of_some _ e)⟩
theorem enumT_end {e it l : Addr} {i : Nat} {items : Array Value} {old : Value} {Q : Option Value → Shared → Prop} (hh : A.handled = none)
    (he : IsEnum s.heap e it i old) (hit : s.heap.IsTupleIter it l i) (hl : s.heap.IsTuple l items) (hx : items[i]? = none)
    (hQ : ∀ h', Heap.ExtBut it s.heap h' → Q none { s with heap := h' }) : wpAny (model prog w) A (pyNext (.ref e)) Q E s := by
  have hT : s.TypeIs (.ref e) "enumerate" := ⟨_, he, rfl⟩
  unfold pyNext
  refine wpAny_bind (wpAny_attempt (wpAny_callSpecial?_slot (name := Str.ofString "__next__") hT F.slot_enumerate_next
    (wpAny_call_entry F.slot_enumerate_next hT F.entry_enumerate_next ?_ (F.args_enumerate_next_1 _))))
  show wpAny _ _ (field (.ref e) 2 >>= _) _ _ _
  refine wpAny_bind (wpAny_field he rfl (x := .ref it) rfl ?_)
  refine wpAny_bind (wpAny_nextOf_tuple_end hh hit hl hx fun h' x he' hx' => ?_)
  obtain ⟨o, ho, hc⟩ := hx'
  refine wpAny_bind (wpAny_isInstance (T := "StopIteration") (b := true) ⟨o, ho, hc⟩ isSubtype_stop ?_)
  exact wpAny_pure (hQ _ he')
/-! sum, max, min of a tuple of ints -/
open Sem (wp)
variable {l : Addr} {xs : Array (Int × Tok)}
theorem iter_intTup {Q : Value → Shared → Prop} (hl : s.heap.IsTuple l (intItems xs))
    (h : ∀ s₂ : Shared, s₂ = { s with heap := s.heap.push { cls := .type "tuple_iterator", data := .fields #[.ref l, .int 0 0] } } →
      (s₂.heap.IsTupleIter s.heap.objs.size l 0 ∧ s₂.heap.IsTuple l (intItems xs)) → (∀ b ∈ [s.heap.objs.size, l], b < s₂.heap.objs.size) → l ≠ s.heap.objs.size → Q (.ref s.heap.objs.size) s₂) :
    wpAny (model prog w) A (pyIter (.ref l)) Q E s := by
  have hlt : l < s.heap.objs.size := by obtain ⟨_, e, _⟩ := hl; exact Heap.lt_size e
  refine wpAny_pyIter_tuple hl (h _ rfl ⟨⟨_, Heap.get?_push_size _ rfl, rfl, rfl⟩, hl.at fun o e => Heap.get?_push_of_some _ e⟩ (fun b hb => ?_) (Nat.ne_of_lt hlt))
  show b < (s.heap.push _).objs.size
  rw [Heap.size_push]
  rcases List.mem_cons.mp hb with rfl | hb
  · exact Nat.lt_succ_self _
  · rcases List.mem_cons.mp hb with rfl | hb
    · exact Nat.lt_succ_of_lt hlt
    · cases hb
theorem old_keptT {h' : Heap} (hk : ∀ b o, b ∉ [s.heap.objs.size] → (s.heap.push { cls := .type "tuple_iterator", data := .fields #[.ref l, .int 0 0] }).get? b = some o → h'.get? b = some o) :
    ∀ b o, s.heap.get? b = some o → h'.get? b = some o := fun b o e => by
  refine hk b o (fun hm => ?_) (Heap.get?_push_of_some _ e)
  rcases List.mem_cons.mp hm with e1 | hm
  · exact absurd (e1 ▸ Heap.lt_size e) (Nat.lt_irrefl _)
  · cases hm
theorem max_intTup {Q : Value → Shared → Prop} (hh : A.handled = none) (hl : s.heap.IsTuple l (intItems xs)) (hne : 0 < xs.size)
    (h : ∀ v h' tk, (intItems xs)[argBest (fun i j => decide (numAt xs i > numAt xs j)) (xs.size - 1)]? = some v → (∀ b o, s.heap.get? b = some o → h'.get? b = some o) → Q v { s with heap := h', toks := tk }) :
    wpAny (model prog w) A (call (.builtin "max") [.ref l]) Q E s := by
  refine call_max_walk (iter_intTup hl fun s₂ e st hfp hlI => ?_)
  subst e
  refine ⟨_, _, _, _, _, _, _, rfl, Walks.tuple (A := A.in1) hh _ l hlI (intItems xs), st, hfp, by simpa [intItems] using hne, CmpOf.ints_gt (numAt xs) (fun _ _ => intItems_at), fun v h' tk hP hk => ?_⟩
  exact h v h' tk (by simpa [intItems] using hP) (old_keptT hk)
theorem min_intTup {Q : Value → Shared → Prop} (hh : A.handled = none) (hl : s.heap.IsTuple l (intItems xs)) (hne : 0 < xs.size)
    (h : ∀ v h' tk, (intItems xs)[argBest (fun i j => decide (numAt xs i < numAt xs j)) (xs.size - 1)]? = some v → (∀ b o, s.heap.get? b = some o → h'.get? b = some o) → Q v { s with heap := h', toks := tk }) :
    wpAny (model prog w) A (call (.builtin "min") [.ref l]) Q E s := by
  refine call_min_walk (iter_intTup hl fun s₂ e st hfp hlI => ?_)
  subst e
  refine ⟨_, _, _, _, _, _, _, rfl, Walks.tuple (A := A.in1) hh _ l hlI (intItems xs), st, hfp, by simpa [intItems] using hne, CmpOf.ints_lt (numAt xs) (fun _ _ => intItems_at), fun v h' tk hP hk => ?_⟩
  exact h v h' tk (by simpa [intItems] using hP) (old_keptT hk)
theorem sum_intTup {Q : Value → Shared → Prop} (hh : A.handled = none) (hl : s.heap.IsTuple l (intItems xs))
    (h : ∀ h' tk t', (∀ b o, s.heap.get? b = some o → h'.get? b = some o) → Q (.int (preSum (numAt xs) xs.size) t') { s with heap := h', toks := tk }) :
    wpAny (model prog w) A (call (.builtin "sum") [.ref l]) Q E s := by
  refine call_sum_walkG (iter_intTup hl fun s₂ e st hfp hlI => ?_)
  subst e
  refine ⟨_, _, _, _, _, _, numAt xs, rfl, Walks.tuple (A := A.in1) hh _ l hlI (intItems xs), st, hfp, (fun _ _ => intItems_at), fun h' tk t' hk => ?_⟩
  have := h h' tk t' (old_keptT hk)
  simpa [intItems] using this
end
end PySem
namespace L2
open PySem PySem.Spec PyProof.Rows
/-- the tuple at a, each item in a new pair -/
def IteT (K : PySem.W.Frag) (a : Addr) : It :=
  ⟨fun i H => ∃ (xs : List V) (x : V), SqT K H a xs ∧ xs[i]? = some x, fun i H v H' => ∃ T x, v = .ref T ∧ H T = none ∧ H' = upd H T (.tup [.int (i : Nat), x]) ∧ ∀ xs, SqT K H a xs → xs[i]? = some x, fun i H => ∃ xs : List V, SqT K H a xs ∧ xs.length ≤ i⟩
theorem turn_enumT {P : Program} {w : World} {K : PySem.W.Frag} {elts : List Expr} {kk : Nat} {tpos : Pos} (a e it : Addr) (hat : a ≠ it) (hae : a ≠ e) :
    Turn P w K (.Tuple elts kk tpos) (IteT K a) [e, it] e (fun i h => (∃ old, IsEnum h e it ((i : Nat) : Int) old) ∧ h.IsTupleIter it a i ∧ e ≠ it) where
  mem := by simp
  obj := fun i h st b hb => by
    obtain ⟨⟨old, he⟩, ⟨o, ho, hc, hd⟩, _⟩ := st
    have e' : b = e ∨ b = it := by simpa using hb
    rcases e' with z | z
    · rw [z]; exact ⟨_, he, fun v q => nomatch q⟩
    · rw [z]; exact ⟨o, ho, fun v q => by rw [hd] at q; cases q⟩
  keep := fun i h h' st k => let ⟨⟨old, he⟩, hi, hne⟩ := st; ⟨⟨old, k e (by simp) _ he⟩, hi.at fun o q => k it (by simp) o q, hne⟩
  item := by
    intro X hP hw hK hc i pins s σ H E I hf st hg
    subst hP hw hK
    obtain ⟨⟨old, he⟩, hit, hne⟩ := st
    obtain ⟨xs, x, hq, hx⟩ := hg
    obtain ⟨its, rv, p, hz⟩ := I.tuple hq
    obtain ⟨u, hu, ru⟩ := rv.get hx
    have hel : e < s.heap.objs.size := Heap.lt_size he
    have hil : it < s.heap.objs.size := by obtain ⟨_, q, _⟩ := hit; exact Heap.lt_size q
    have hh : X.A.handled = none := I.ok.hd hc
    have D := Draws.tuple (prog := X.prog) (w := X.w) (A := X.A.in1) (by first | exact hh | (show X.A.in1.handled = none; exact hh)) it a hat its.toArray
    have hlt : i < its.toArray.size := by
      have := (List.getElem?_eq_some_iff.mp hu).1
      simpa using this
    refine wpAny_pyNext_enum_itemD D he ⟨hit, (show s.heap.IsTuple a its.toArray from p)⟩ hlt hne (by simp; exact ⟨hne, Ne.symm hae⟩) fun x' h' tk hP ho hst hT hsz hk => ?_
    obtain ⟨hit', _⟩ := hst
    have ex' : x' = u := by
      have hP : its.toArray[i]? = some x' := hP
      rw [List.getElem?_toArray, hu] at hP
      exact (Option.some.inj hP).symm
    subst ex'
    refine ⟨_, rfl, wpAny_letOwnedTupleGo_enum (s := { s with heap := h', toks := tk + 1 }) ho fun h'' he' sb => ?_⟩
    have hT2 : h''.get? s.heap.objs.size = some { cls := .type "tuple", data := .seq #[.int i tk, x'] } := (sb.2 _ (Nat.ne_of_gt hel)).trans hT
    have new : ObjOk X.prog X.w (upd H s.heap.objs.size (.tup [.int (i : Nat), x])) h'' s.heap.objs.size (.tup [.int (i : Nat), x]) :=
      ⟨by show 2 ≤ sizeLine; decide, [.int i tk, x'], .cons ⟨_, rfl⟩ (.cons ru .nil), ⟨_, hT2, rfl, _, rfl⟩⟩
    have I1 : Inv X pins σ (upd H s.heap.objs.size (.tup [.int (i : Nat), x])) { s with heap := h'', toks := tk + 1 } :=
      I.turnedNew (ch := [e, it]) (fun b ob hb q => (sb.2 b (fun z => hb (by simp [z]))).trans (hk b ob (fun z => hb (by simp [z])) (fun z => hb (by simp [z])) q)) hf (Nat.le_refl _) new
    refine ⟨.ref s.heap.objs.size, _, I1, rfl, ⟨_, x, rfl, I.hok.fresh (Nat.le_refl _), rfl, fun ys hy => by rw [I.tuple_inj hy hq]; exact hx⟩, ⟨⟨x', ?_⟩, hit'.at fun o q => (sb.2 it (Ne.symm hne)).trans q, hne⟩, fun b hb => ?_⟩
    · have e1 : ((i + 1 : Nat) : Int) = (i : Int) + 1 := by omega
      rw [e1]; exact he'
    · have hb' : b < s.heap.objs.size := by
        have e' : b = e ∨ b = it := by simpa using hb
        rcases e' with z | z
        · rw [z]; exact hel
        · rw [z]; exact hil
      rw [upd_ne (Nat.ne_of_lt hb')]
      exact (hf b hb).1
  done := by
    intro X hP hw hK hc i pins s σ H E I hf st hg
    subst hP hw hK
    obtain ⟨⟨old, he⟩, hit, hne⟩ := st
    obtain ⟨xs, hq, hx⟩ := hg
    obtain ⟨its, rv, p, hz⟩ := I.tuple hq
    obtain ⟨f0, f1, f2, f3, f4, f5⟩ := hf it (by simp)
    have hl := rv.length
    have hh : X.A.handled = none := I.ok.hd hc
    exact PySem.enumT_end hh he hit (show s.heap.IsTuple a its.toArray from p) (by simp; omega) fun h' eb => ⟨rfl, I.turned (t' := s.toks) (fun b o hb q => eb b o hb q) f0 f1 f3 f4 f5⟩
  self := fun A i s Q E st h => let ⟨⟨_, he⟩, _⟩ := st; wpAny_pyIter_enum he h
end L2

namespace L2
open PySem PySem.Spec PyProof.Rows
section
variable {prog : Program} {w : World} {A : Around} {E : Value → Shared → Prop} {Q : Value → Shared → Prop} {s : Shared} {l : Addr} {its : List Value} {ns : List Int}
theorem sum_rawT (hh : A.handled = none) (hl : s.heap.IsTuple l its.toArray) (hi : IntsAre its ns)
    (h : ∀ h' tk t', (∀ b o, s.heap.get? b = some o → h'.get? b = some o) → Q (.int ns.sum t') { s with heap := h', toks := tk }) : wpAny (model prog w) A (call (.builtin "sum") [.ref l]) Q E s := by
  obtain ⟨xs, e⟩ := hi.allInts.items
  have hn : numsOf (intItems xs).toList = ns := by rw [← e]; exact hi.numsOf
  rw [nums_intItems] at hn
  rw [e] at hl
  refine PySem.sum_intTup hh hl fun h' tk t' hk => ?_
  have := h h' tk t' hk
  rw [preSum_eq, List.take_of_length_le (by simp), hn]; exact this
theorem max_rawT (hh : A.handled = none) (hl : s.heap.IsTuple l its.toArray) (hi : IntsAre its ns) (hne : 0 < ns.length)
    (h : ∀ h' tk M t', (∀ b o, s.heap.get? b = some o → h'.get? b = some o) → M ∈ ns → (∀ a, a ∈ ns → a ≤ M) → Q (.int M t') { s with heap := h', toks := tk }) : wpAny (model prog w) A (call (.builtin "max") [.ref l]) Q E s := by
  obtain ⟨xs, e⟩ := hi.allInts.items
  have hn : numsOf (intItems xs).toList = ns := by rw [← e]; exact hi.numsOf
  rw [nums_intItems] at hn
  subst hn
  rw [e] at hl
  have hsz : 0 < xs.size := by simpa using hne
  refine PySem.max_intTup hh hl hsz fun v h' tk hv hk => ?_
  obtain ⟨t, rfl⟩ := intItems_at hv
  obtain ⟨h1, h2⟩ := argBest_gt (numAt xs) (xs.size - 1)
  refine h h' tk _ t hk ?_ fun a ha => ?_
  · rw [numAt_eq]; exact PySem.getD_mem (by rw [List.length_map, Array.length_toList]; omega)
  · obtain ⟨j, hj, rfl⟩ := mem_getD ha
    rw [List.length_map, Array.length_toList] at hj
    rw [← numAt_eq]; exact h2 j (by omega)
theorem min_rawT (hh : A.handled = none) (hl : s.heap.IsTuple l its.toArray) (hi : IntsAre its ns) (hne : 0 < ns.length)
    (h : ∀ h' tk M t', (∀ b o, s.heap.get? b = some o → h'.get? b = some o) → M ∈ ns → (∀ a, a ∈ ns → M ≤ a) → Q (.int M t') { s with heap := h', toks := tk }) : wpAny (model prog w) A (call (.builtin "min") [.ref l]) Q E s := by
  obtain ⟨xs, e⟩ := hi.allInts.items
  have hn : numsOf (intItems xs).toList = ns := by rw [← e]; exact hi.numsOf
  rw [nums_intItems] at hn
  subst hn
  rw [e] at hl
  have hsz : 0 < xs.size := by simpa using hne
  refine PySem.min_intTup hh hl hsz fun v h' tk hv hk => ?_
  obtain ⟨t, rfl⟩ := intItems_at hv
  obtain ⟨h1, h2⟩ := argBest_lt (numAt xs) (xs.size - 1)
  refine h h' tk _ t hk ?_ fun a ha => ?_
  · rw [numAt_eq]; exact PySem.getD_mem (by rw [List.length_map, Array.length_toList]; omega)
  · obtain ⟨j, hj, rfl⟩ := mem_getD ha
    rw [List.length_map, Array.length_toList] at hj
    rw [← numAt_eq]; exact h2 j (by omega)
end
section
variable {X : Cx}
def rSumQ (K : PySem.W.Frag) : List V → Hp → VK → Prop := fun vs H Q => ∃ (a : Addr) (ns : List Int), vs = [V.ref a] ∧ (SqL K H a (ns.map V.int) ∨ SqT K H a (ns.map V.int)) ∧ Q (.int ns.sum) H
def rMaxQ (K : PySem.W.Frag) : List V → Hp → VK → Prop := fun vs H Q => ∃ (a : Addr) (ns : List Int), vs = [V.ref a] ∧ (SqL K H a (ns.map V.int) ∨ SqT K H a (ns.map V.int)) ∧ 0 < ns.length ∧ ∀ m, m ∈ ns → (∀ y, y ∈ ns → y ≤ m) → Q (.int m) H
def rMinQ (K : PySem.W.Frag) : List V → Hp → VK → Prop := fun vs H Q => ∃ (a : Addr) (ns : List Int), vs = [V.ref a] ∧ (SqL K H a (ns.map V.int) ∨ SqT K H a (ns.map V.int)) ∧ 0 < ns.length ∧ ∀ m, m ∈ ns → (∀ y, y ∈ ns → m ≤ y) → Q (.int m) H
theorem crq_sum (hc : X.calm = true) : CallR X (.builtin "sum") (rSumQ X.K) := by
  intro pins s σ H vs us Q I r h
  obtain ⟨a, ns, rfl, hs | hs, q⟩ := h
  · exact cr_sum hc pins s σ H _ us Q I r ⟨a, ns, rfl, hs, q⟩
  · obtain ⟨its, rv, hl, _⟩ := I.tuple hs
    rw [Vals.ref1 r]
    exact sum_rawT (I.ok.hd hc) (show s.heap.IsTuple a its.toArray from hl) rv.ints fun h' tk t' hk => ⟨.int _, H, I.kept hk, ⟨_, rfl⟩, q⟩
theorem crq_max (hc : X.calm = true) : CallR X (.builtin "max") (rMaxQ X.K) := by
  intro pins s σ H vs us Q I r h
  obtain ⟨a, ns, rfl, hs | hs, hne, q⟩ := h
  · exact cr_max hc pins s σ H _ us Q I r ⟨a, ns, rfl, hs, hne, q⟩
  · obtain ⟨its, rv, hl, _⟩ := I.tuple hs
    rw [Vals.ref1 r]
    exact max_rawT (I.ok.hd hc) (show s.heap.IsTuple a its.toArray from hl) rv.ints hne fun h' tk m t' hk h1 h2 => ⟨.int _, H, I.kept hk, ⟨_, rfl⟩, q m h1 h2⟩
theorem crq_min (hc : X.calm = true) : CallR X (.builtin "min") (rMinQ X.K) := by
  intro pins s σ H vs us Q I r h
  obtain ⟨a, ns, rfl, hs | hs, hne, q⟩ := h
  · exact cr_min hc pins s σ H _ us Q I r ⟨a, ns, rfl, hs, hne, q⟩
  · obtain ⟨its, rv, hl, _⟩ := I.tuple hs
    rw [Vals.ref1 r]
    exact min_rawT (I.ok.hd hc) (show s.heap.IsTuple a its.toArray from hl) rv.ints hne fun h' tk m t' hk h1 h2 => ⟨.int _, H, I.kept hk, ⟨_, rfl⟩, q m h1 h2⟩
def iEnumA (K : PySem.W.Frag) (ta : TA) : TI := fun σ H R => ta σ H fun vs H1 => ∃ a xs, vs = [.ref a] ∧ ((SqL K H1 a xs ∧ R (Ite K a) H1) ∨ (SqT K H1 a xs ∧ R (IteT K a) H1))
theorem pi_enumA {e : Expr} {ta : TA} {p pos tpos : Pos} {elts : List Expr} {kk : Nat} (hg : Gl X "enumerate") (hm : X.mg "enumerate" = none) (ha : PA X [e] ta) (hs : starEach [e] X.env = [(false, eval e X.env)] := by rfl) :
    PI X (.Tuple elts kk tpos) (.Call (.Name "enumerate" p) [e] [] pos) (iEnumA X.K ta) := by
  refine ⟨fun pins s σ H R I h => ?_⟩
  refine Call_ (ld_blt I hg hm boot_enumerate (PyProof.Rows.callWith_type1 (thn (ha.run pos pins s σ H _ I h) fun us s1 ⟨vs, H1, I1, r1, q1⟩ => ?_) hs rfl))
  obtain ⟨a, xs, ex, q⟩ := q1
  subst ex
  have hle : ∀ b, (b = s1.heap.objs.size + 1 ∨ b = s1.heap.objs.size) → s1.heap.objs.size ≤ b := fun b e' => by
    rcases e' with z | z
    · rw [z]; exact Nat.le_add_right _ _
    · rw [z]; exact Nat.le_refl _
  cases r1 with
  | cons r rr =>
    cases rr
    cases r
    rcases q with ⟨hq, q⟩ | ⟨hq, q⟩
    · obtain ⟨its, rv, p', hz⟩ := I1.list hq
      refine call_enumerate_list p'.isList fun h' he hit hsz hk => wpAny_pyIter_enum he ?_
      have I2 : Inv X pins σ H1 { s1 with heap := h' } := I1.kept (t' := s1.toks) hk
      exact ⟨s1.heap.objs.size + 1, [s1.heap.objs.size + 1, s1.heap.objs.size], _, _, H1, rfl, I2, turn_enum a (s1.heap.objs.size + 1) s1.heap.objs.size, ⟨⟨.none, he⟩, hit, Nat.succ_ne_self _⟩, fun b hb => I1.fpOk (hle b (by simpa using hb)) (I1.hok.fresh (hle b (by simpa using hb))), q⟩
    · obtain ⟨its, rv, p', hz⟩ := I1.tuple hq
      have hlt : a < s1.heap.objs.size := p'.lt
      refine PySem.call_enumerate_tuple (show s1.heap.IsTuple a its.toArray from p') fun h' he hit hsz hk => wpAny_pyIter_enum he ?_
      have I2 : Inv X pins σ H1 { s1 with heap := h' } := I1.kept (t' := s1.toks) hk
      exact ⟨s1.heap.objs.size + 1, [s1.heap.objs.size + 1, s1.heap.objs.size], _, _, H1, rfl, I2, turn_enumT a (s1.heap.objs.size + 1) s1.heap.objs.size (Nat.ne_of_lt hlt) (Nat.ne_of_lt (Nat.lt_succ_of_lt hlt)), ⟨⟨.none, he⟩, hit, Nat.succ_ne_self _⟩, fun b hb => I1.fpOk (hle b (by simpa using hb)) (I1.hok.fresh (hle b (by simpa using hb))), q⟩
end
end L2

set_option Elab.async false
set_option linter.all false
set_option maxRecDepth 100000
set_option maxHeartbeats 4000000
set_option autoImplicit false
namespace FL
open PySem PySem.Spec L2

/-! ### sum, max, min of ints -/
def intsU : List U → Option (List Int)
  | [] => some []
  | .int i :: r => (intsU r).map (i :: ·)
  | _ :: _ => none
def maxL : List Int → Int
  | [] => 0
  | [x] => x
  | x :: y :: r => if x < maxL (y :: r) then maxL (y :: r) else x
def minL : List Int → Int
  | [] => 0
  | [x] => x
  | x :: y :: r => if minL (y :: r) < x then minL (y :: r) else x
theorem maxL_spec : ∀ {l : List Int}, l ≠ [] → maxL l ∈ l ∧ ∀ y ∈ l, y ≤ maxL l
  | [], h => absurd rfl h
  | [x], _ => by simp [maxL]
  | x :: y :: r, _ => by
    obtain ⟨h1, h2⟩ := maxL_spec (l := y :: r) (List.cons_ne_nil _ _)
    unfold maxL
    by_cases hx : x < maxL (y :: r)
    · rw [if_pos hx]
      refine ⟨List.mem_cons_of_mem _ h1, fun z hz => ?_⟩
      rcases List.mem_cons.mp hz with e | e
      · rw [e]; omega
      · exact h2 z e
    · rw [if_neg hx]
      refine ⟨List.mem_cons_self, fun z hz => ?_⟩
      rcases List.mem_cons.mp hz with e | e
      · rw [e]; exact Int.le_refl _
      · have := h2 z e; omega
theorem minL_spec : ∀ {l : List Int}, l ≠ [] → minL l ∈ l ∧ ∀ y ∈ l, minL l ≤ y
  | [], h => absurd rfl h
  | [x], _ => by simp [minL]
  | x :: y :: r, _ => by
    obtain ⟨h1, h2⟩ := minL_spec (l := y :: r) (List.cons_ne_nil _ _)
    unfold minL
    by_cases hx : minL (y :: r) < x
    · rw [if_pos hx]
      refine ⟨List.mem_cons_of_mem _ h1, fun z hz => ?_⟩
      rcases List.mem_cons.mp hz with e | e
      · rw [e]; omega
      · exact h2 z e
    · rw [if_neg hx]
      refine ⟨List.mem_cons_self, fun z hz => ?_⟩
      rcases List.mem_cons.mp hz with e | e
      · rw [e]; exact Int.le_refl _
      · have := h2 z e; omega
theorem maxL_eq {l : List Int} {m : Int} (hm : m ∈ l) (h : ∀ y ∈ l, y ≤ m) : m = maxL l := by
  obtain ⟨h1, h2⟩ := maxL_spec (List.ne_nil_of_mem hm)
  have := h _ h1
  have := h2 _ hm
  omega
theorem minL_eq {l : List Int} {m : Int} (hm : m ∈ l) (h : ∀ y ∈ l, m ≤ y) : m = minL l := by
  obtain ⟨h1, h2⟩ := minL_spec (List.ne_nil_of_mem hm)
  have := h _ h1
  have := h2 _ hm
  omega
theorem intsU_map : ∀ (l : List Int), intsU (l.map .int) = some l
  | [] => rfl
  | x :: r => by rw [List.map_cons]; unfold intsU; rw [intsU_map r]; rfl
def bInts (g : List Int → U) (ne : Bool) (us : List U) (G : Gp) : R U := match us with
  | [u] => match seqU G u with
    | some xs => match intsU xs with
      | some ns => if ne = true ∧ ns = [] then .bad else .ok (g ns) G
      | none => .bad
    | none => .bad
  | _ => .bad
abbrev bSum := bInts (fun ns => .int ns.sum) false
abbrev bMax := bInts (fun ns => .int (maxL ns)) true
abbrev bMin := bInts (fun ns => .int (minL ns)) true
section
variable {K : KZ}
theorem intsU_rel {ρ : List Addr} {H : Hp} : ∀ {xs : List U} {vs : List V} {ns : List Int}, RUs K ρ H xs vs → intsU xs = some ns → vs = ns.map V.int
  | _, _, ns, .nil, h => by cases h; rfl
  | _, _, ns, .cons (x := x) (xs := xs) hx ht, h => by
    cases hx with
    | int i =>
      unfold intsU at h
      cases q : intsU xs with
      | none => rw [q] at h; exact nomatch h
      | some ms =>
        rw [q] at h
        cases h
        rw [intsU_rel ht q]; rfl
    | _ => exact nomatch h
theorem bInts_ok {g : List Int → U} {ne : Bool} {ρ : List Addr} {G : Gp} {H : Hp} {us : List U} {vs : List V} {Q : VK} {E : XK} (S : Sim K ρ G H) (r : RUs K ρ H us vs) (h : Post K (RU K) ρ H (bInts g ne us G) Q E) :
    ∃ (a : Addr) (ns : List Int), vs = [.ref a] ∧ (SqL K.K H a (ns.map V.int) ∨ SqT K.K H a (ns.map V.int)) ∧ (ne = true → ns ≠ []) ∧ Post K (RU K) ρ H (.ok (g ns) G) Q E := by
  unfold bInts at h
  split at h
  · rename_i u
    obtain ⟨v, rfl, rv⟩ := r.one
    cases q : seqU G u with
    | none => rw [q] at h; exact h.elim
    | some xs =>
      rw [q] at h
      simp only at h
      cases q2 : intsU xs with
      | none => rw [q2] at h; exact h.elim
      | some ns =>
        rw [q2] at h
        simp only at h
        obtain ⟨p, ws, rfl, hq, hr⟩ := seqU_ok S rv q
        have e := intsU_rel hr q2
        subst e
        by_cases hn : ne = true ∧ ns = []
        · rw [if_pos hn] at h; exact h.elim
        · rw [if_neg hn] at h
          exact ⟨p, ns, rfl, hq, fun h1 h2 => hn ⟨h1, h2⟩, h⟩
  · exact h.elim
theorem oSum : OpN K (rSumQ K.K) bSum := by
  intro ρ G H us vs Q E S r h
  obtain ⟨a, ns, rfl, hq, _, h⟩ := bInts_ok S r h
  exact ⟨a, ns, rfl, hq, h.end_ S (.int _)⟩
theorem oMax : OpN K (rMaxQ K.K) bMax := by
  intro ρ G H us vs Q E S r h
  obtain ⟨a, ns, rfl, hq, hne, h⟩ := bInts_ok S r h
  refine ⟨a, ns, rfl, hq, List.length_pos_iff.mpr (hne rfl), fun m h1 h2 => ?_⟩
  rw [maxL_eq h1 h2]
  exact h.end_ S (.int _)
theorem oMin : OpN K (rMinQ K.K) bMin := by
  intro ρ G H us vs Q E S r h
  obtain ⟨a, ns, rfl, hq, hne, h⟩ := bInts_ok S r h
  refine ⟨a, ns, rfl, hq, List.length_pos_iff.mpr (hne rfl), fun m h1 h2 => ?_⟩
  rw [minL_eq h1 h2]
  exact h.end_ S (.int _)
end
section
variable {X : Cx} {Z : ZZ X.K} {W : WX} {e e2 : Expr} {es : List Expr} {fa : Ev → Gp → R (List U)} {f : Ev → Gp → R U} {p pos tpos : Pos} {kk : Nat} {elts : List Expr}
theorem fsum (hc : X.calm = true) (hm : X.mg "sum" = none) (ha : FA X Z W [e] fa) (hg : Gl X "sum" := by rfl) (he : starEach [e] X.env = (false, eval e X.env) :: starEach [] X.env := by rfl) (hpl : (backTo pos (starEach [] X.env)).any (·.1) = false := by rfl) : FE X Z W (.Call (.Name "sum" p) [e] [] pos) (eCall bSum fa) :=
  fcallB oSum (crq_sum hc) hg hm (by decide +kernel) ha (by decide) (by decide) he hpl
theorem fmax (hc : X.calm = true) (hm : X.mg "max" = none) (ha : FA X Z W [e] fa) (hg : Gl X "max" := by rfl) (he : starEach [e] X.env = (false, eval e X.env) :: starEach [] X.env := by rfl) (hpl : (backTo pos (starEach [] X.env)).any (·.1) = false := by rfl) : FE X Z W (.Call (.Name "max" p) [e] [] pos) (eCall bMax fa) :=
  fcallB oMax (crq_max hc) hg hm (by decide +kernel) ha (by decide) (by decide) he hpl
theorem fmin (hc : X.calm = true) (hm : X.mg "min" = none) (ha : FA X Z W [e] fa) (hg : Gl X "min" := by rfl) (he : starEach [e] X.env = (false, eval e X.env) :: starEach [] X.env := by rfl) (hpl : (backTo pos (starEach [] X.env)).any (·.1) = false := by rfl) : FE X Z W (.Call (.Name "min" p) [e] [] pos) (eCall bMin fa) :=
  fcallB oMin (crq_min hc) hg hm (by decide +kernel) ha (by decide) (by decide) he hpl
theorem fmax2 (hc : X.calm = true) (hm : X.mg "max" = none) (ha : FA X Z W [e, e2] fa) (hg : Gl X "max" := by rfl) (he : starEach [e, e2] X.env = (false, eval e X.env) :: starEach [e2] X.env := by rfl) (hpl : (backTo pos (starEach [e2] X.env)).any (·.1) = false := by rfl) : FE X Z W (.Call (.Name "max" p) [e, e2] [] pos) (eCall bMax2 fa) :=
  fcallB oMax2 (call_max2 hc) hg hm (by decide +kernel) ha (by decide) (by decide) he hpl
theorem fmin2 (hc : X.calm = true) (hm : X.mg "min" = none) (ha : FA X Z W [e, e2] fa) (hg : Gl X "min" := by rfl) (he : starEach [e, e2] X.env = (false, eval e X.env) :: starEach [e2] X.env := by rfl) (hpl : (backTo pos (starEach [e2] X.env)).any (·.1) = false := by rfl) : FE X Z W (.Call (.Name "min" p) [e, e2] [] pos) (eCall bMin2 fa) :=
  fcallB oMin2 (call_min2 hc) hg hm (by decide +kernel) ha (by decide) (by decide) he hpl
theorem flen (hm : X.mg "len" = none) (ha : FA X Z W [e] fa) (hg : Gl X "len" := by rfl) (he : starEach [e] X.env = (false, eval e X.env) :: starEach [] X.env := by rfl) (hpl : (backTo pos (starEach [] X.env)).any (·.1) = false := by rfl) : FE X Z W (.Call (.Name "len" p) [e] [] pos) (eCall bLen fa) :=
  fcallB oLen call_len hg hm (by decide +kernel) ha (by decide) (by decide) he hpl
theorem fabs (hm : X.mg "abs" = none) (ha : FA X Z W [e] fa) (hg : Gl X "abs" := by rfl) (he : starEach [e] X.env = (false, eval e X.env) :: starEach [] X.env := by rfl) (hpl : (backTo pos (starEach [] X.env)).any (·.1) = false := by rfl) : FE X Z W (.Call (.Name "abs" p) [e] [] pos) (eCall bAbs fa) :=
  fcallB oAbs call_abs hg hm (by decide +kernel) ha (by decide) (by decide) he hpl
theorem fcint (hm : X.mg "int" = none) (ha : FA X Z W [e] fa) (hg : Gl X "int" := by rfl) (he : starEach [e] X.env = (false, eval e X.env) :: starEach [] X.env := by rfl) (hpl : (backTo pos (starEach [] X.env)).any (·.1) = false := by rfl) : FE X Z W (.Call (.Name "int" p) [e] [] pos) (eCall bInt fa) :=
  fcallTy oInt call_int1 hg hm (by decide +kernel) ha (by decide) (by decide) he hpl
theorem fctuple (hm : X.mg "tuple" = none) (ha : FA X Z W [e] fa) (hg : Gl X "tuple" := by rfl) (he : starEach [e] X.env = (false, eval e X.env) :: starEach [] X.env := by rfl) (hpl : (backTo pos (starEach [] X.env)).any (·.1) = false := by rfl) : FE X Z W (.Call (.Name "tuple" p) [e] [] pos) (eCall bTuple fa) :=
  fcallTy oTuple call_tuple_of hg hm (by decide +kernel) ha (by decide) (by decide) he hpl
theorem fclist (hm : X.mg "list" = none) (ha : FA X Z W [e] fa) (hg : Gl X "list" := by rfl) (he : starEach [e] X.env = (false, eval e X.env) :: starEach [] X.env := by rfl) (hpl : (backTo pos (starEach [] X.env)).any (·.1) = false := by rfl) : FE X Z W (.Call (.Name "list" p) [e] [] pos) (eCall bList fa) :=
  fcallTy oList call_list_of hg hm (by decide +kernel) ha (by decide) (by decide) he hpl
/-! ### enumerate, zip, reversed(range) -/
def kEnum (us : List U) (G : Gp) : Option Src := match us with
  | [.tup xs] => some (.items (xs.mapIdx fun i x => .tup [.int (i : Nat), x]))
  | [.rl xs] => some (.items (xs.mapIdx fun i x => .tup [.int (i : Nat), x]))
  | [.ref l] => match G[l]? with
    | some (.lst xs) => some (.live (xs.length + 1) fun i G => match G[l]? with
      | some (.lst ys) => some (ys[i]?.map fun x => .tup [.int (i : Nat), x])
      | _ => none)
    | _ => none
  | _ => none
theorem pair_yld {K : KZ} {ρ : List Addr} {G : Gp} {H : Hp} {u w : U} {v z : V} {T : Addr} (S : Sim K ρ G H) (r : RU K ρ H u v) (q : RU K ρ H w z) (hT : H T = none) :
    Stb K H (upd H T (.tup [v, z])) ∧ Sim K ρ G (upd H T (.tup [v, z])) ∧ RU K ρ (upd H T (.tup [v, z])) (.tup [u, w]) (.ref T) :=
  ⟨stb_new hT, S.tup hT, .tup upd_same (.cons (r.mono pre_refl (stb_new hT)) (.cons (q.mono pre_refl (stb_new hT)) .nil))⟩
theorem wk_enumT {K : KZ} {ρ : List Addr} {H : Hp} {xs : List U} {vs : List V} {a : Addr} (h : TupAt K H a vs) (r : RUs K ρ H xs vs) : Wk K ρ H (.items (xs.mapIdx fun i x => .tup [.int (i : Nat), x])) (IteT K.K a) := by
  intro ρ' H' G i p s S
  show match some (xs.mapIdx fun i x => U.tup [.int (i : Nat), x])[i]? with
    | none => True
    | some none => (IteT K.K a).stop i H'
    | some (some u) => (IteT K.K a).go i H' ∧ ∀ x H'', (IteT K.K a).yld i H' x H'' → Stb K H' H'' ∧ Sim K ρ' G H'' ∧ RU K ρ' H'' u x
  have h' := (s.tupAt h).sq
  rw [List.getElem?_mapIdx]
  cases q : xs[i]? with
  | none => exact ⟨vs, h', by rw [← r.len]; exact List.getElem?_eq_none_iff.mp q⟩
  | some u =>
    obtain ⟨v, e, rv⟩ := r.getU q
    refine ⟨⟨vs, v, h', e⟩, fun x H'' y => ?_⟩
    obtain ⟨T, z, rfl, hT, rfl, y⟩ := y
    have := y vs h'
    rw [e] at this; cases this
    exact pair_yld S (.int _) (rv.mono p s) hT
theorem wk_enumR {K : KZ} {ρ : List Addr} {H : Hp} {xs : List U} {vs : List V} {a : Addr} (h : RLs K H a vs) (r : RUs K ρ H xs vs) : Wk K ρ H (.items (xs.mapIdx fun i x => .tup [.int (i : Nat), x])) (Ite K.K a) := by
  intro ρ' H' G i p s S
  show match some (xs.mapIdx fun i x => U.tup [.int (i : Nat), x])[i]? with
    | none => True
    | some none => (Ite K.K a).stop i H'
    | some (some u) => (Ite K.K a).go i H' ∧ ∀ x H'', (Ite K.K a).yld i H' x H'' → Stb K H' H'' ∧ Sim K ρ' G H'' ∧ RU K ρ' H'' u x
  have h' := (s.rls h).sq
  rw [List.getElem?_mapIdx]
  cases q : xs[i]? with
  | none => exact ⟨vs, h', by rw [← r.len]; exact List.getElem?_eq_none_iff.mp q⟩
  | some u =>
    obtain ⟨v, e, rv⟩ := r.getU q
    refine ⟨⟨vs, v, h', e⟩, fun x H'' y => ?_⟩
    obtain ⟨T, z, rfl, hT, rfl, y⟩ := y
    have := y vs h'
    rw [e] at this; cases this
    exact pair_yld S (.int _) (rv.mono p s) hT
theorem wk_enumL {K : KZ} {ρ : List Addr} {H : Hp} {l : Nat} {a : Addr} {n : Nat} (ha : ρ[l]? = some a) : Wk K ρ H (.live n fun i G => match G[l]? with
      | some (.lst ys) => some (ys[i]?.map fun x => .tup [.int (i : Nat), x])
      | _ => none) (Ite K.K a) := by
  intro ρ' H' G i p s S
  show match (match G[l]? with
      | some (.lst ys) => some (ys[i]?.map fun x => .tup [.int (i : Nat), x])
      | _ => none : Option (Option U)) with
    | none => True
    | some none => (Ite K.K a).stop i H'
    | some (some u) => (Ite K.K a).go i H' ∧ ∀ x H'', (Ite K.K a).yld i H' x H'' → Stb K H' H'' ∧ Sim K ρ' G H'' ∧ RU K ρ' H'' u x
  cases q : G[l]? with
  | none => trivial
  | some o =>
    cases o with
    | lst ys =>
      obtain ⟨vs, e, r⟩ := S.list (pre_get p ha) q
      show match some (ys[i]?.map fun x => U.tup [.int (i : Nat), x]) with
        | none => True
        | some none => (Ite K.K a).stop i H'
        | some (some u) => (Ite K.K a).go i H' ∧ ∀ x H'', (Ite K.K a).yld i H' x H'' → Stb K H' H'' ∧ Sim K ρ' G H'' ∧ RU K ρ' H'' u x
      cases q2 : ys[i]? with
      | none => exact ⟨vs, SqL.of e, by rw [← r.len]; exact List.getElem?_eq_none_iff.mp q2⟩
      | some u =>
        obtain ⟨v, e2, rv⟩ := r.getU q2
        refine ⟨⟨vs, v, SqL.of e, e2⟩, fun x H'' y => ?_⟩
        obtain ⟨T, z, rfl, hT, rfl, y⟩ := y
        have := y vs (SqL.of e)
        rw [e2] at this; cases this
        exact pair_yld S (.int _) rv hT
    | _ => trivial
theorem fienum (hm : X.mg "enumerate" = none) (ha : FA X Z W [e] fa) (hg : Gl X "enumerate" := by rfl) (hs : starEach [e] X.env = [(false, eval e X.env)] := by rfl) : FI X Z W (.Tuple elts kk tpos) (.Call (.Name "enumerate" p) [e] [] pos) (iOfs fa kEnum) := by
  refine PIimp (pi_enumA hg hm ha hs) fun σ H Q h => ?_
  refine tG_mono (iSteps h) fun vs H1 ⟨ρ1, G1, us, src, S1, r1, hk, q⟩ => ?_
  unfold kEnum at hk
  split at hk
  · cases hk
    obtain ⟨v, rfl, rv⟩ := r1.one
    cases rv with
    | tup ht hr => exact ⟨_, _, rfl, .inr ⟨ht.sq, q _ (wk_enumT ht hr)⟩⟩
  · cases hk
    obtain ⟨v, rfl, rv⟩ := r1.one
    cases rv with
    | rl ht hr => exact ⟨_, _, rfl, .inl ⟨ht.sq, q _ (wk_enumR ht hr)⟩⟩
  · rename_i l
    obtain ⟨v, rfl, rv⟩ := r1.one
    cases rv with
    | ref ha' =>
      cases q2 : G1[l]? with
      | none => rw [q2] at hk; exact nomatch hk
      | some o =>
        rw [q2] at hk
        cases o with
        | lst xs =>
          cases hk
          obtain ⟨ws, e1, _⟩ := S1.list ha' q2
          exact ⟨_, ws, rfl, .inl ⟨SqL.of e1, q _ (wk_enumL ha')⟩⟩
        | _ => exact nomatch hk
  · exact nomatch hk
/-! reversed(range(a, b)), reversed(range(b)) -/
def kRevR (us : List U) (G : Gp) : Option Src := match us with
  | [.int a, .int b] => if -(2 ^ 62) ≤ a ∧ a < 2 ^ 62 ∧ -(2 ^ 62) ≤ b ∧ b < 2 ^ 62 then some (.live ((b - a).toNat + 1) fun i _ => some (if i < (b - a).toNat then some (.int (a + (((b - a).toNat : Nat) : Int) - 1 + (i : Nat) * (-1))) else none)) else none
  | [.int b] => if -(2 ^ 62) ≤ b ∧ b < 2 ^ 62 then some (.live ((b - 0).toNat + 1) fun i _ => some (if i < (b - 0).toNat then some (.int (0 + (((b - 0).toNat : Nat) : Int) - 1 + (i : Nat) * (-1))) else none)) else none
  | _ => none
theorem wk_rngC {K : KZ} {ρ : List Addr} {H : Hp} {lo c : Int} {n m : Nat} : Wk K ρ H (.live m fun i _ => some (if i < n then some (.int (lo + (i : Nat) * c)) else none)) (Itc lo c n) := by
  intro ρ' H' G i p s S
  show match some (if i < n then some (U.int (lo + (i : Nat) * c)) else none) with
    | none => True
    | some none => (Itc lo c n).stop i H'
    | some (some u) => (Itc lo c n).go i H' ∧ ∀ x H'', (Itc lo c n).yld i H' x H'' → Stb K H' H'' ∧ Sim K ρ' G H'' ∧ RU K ρ' H'' u x
  by_cases hi : i < n
  · rw [if_pos hi]
    refine ⟨hi, fun x H'' y => ?_⟩
    obtain ⟨rfl, rfl⟩ := y
    exact ⟨Stb.refl, S, .int _⟩
  · rw [if_neg hi]; exact Nat.le_of_not_lt hi
theorem firev2 {tg a b : Expr} {f g : Ev → Gp → R U} {p2 pos2 : Pos} (hm : X.mg "reversed" = none) (hm2 : X.mg "range" = none) (ha : FE X Z W a f) (hb : FE X Z W b g) (hg : Gl X "reversed" := by rfl) (hg2 : Gl X "range" := by rfl)
    (na : starEach [a, b] X.env = (false, eval a X.env) :: starEach [b] X.env := by rfl) (nb : starEach [b] X.env = (false, eval b X.env) :: starEach [] X.env := by rfl) (hp : (backTo pos2 (starEach [b] X.env)).any (·.1) = false := by rfl)
    (hs : starEach [.Call (.Name "range" p2) [a, b] [] pos2] X.env = (false, eval (.Call (.Name "range" p2) [a, b] [] pos2) X.env) :: starEach [] X.env := by rfl) : FI X Z W tg (.Call (.Name "reversed" p) [.Call (.Name "range" p2) [a, b] [] pos2] [] pos) (iOfs (aCons f (aCons g aNil)) kRevR) := by
  refine PIimp (pi_revR hg hm (prg_2 hg2 hm2 ha hb na nb hp) hs) fun σ H Q h => ?_
  have h2 := iSteps h
  obtain ⟨ρ, G, env, S, e, h2⟩ := h2
  have h2 : Post (kz X Z) (RUs (kz X Z)) ρ H ((f env G).bind fun x G1 => ((g env G1).bind fun y G2 => R.ok [y] G2).bind fun xs G2 => .ok (x :: xs) G2) (fun vs H1 => ∃ ρ1 G1 us src, Sim (kz X Z) ρ1 G1 H1 ∧ RUs (kz X Z) ρ1 H1 us vs ∧ kRevR us G1 = some src ∧ ∀ J, Wk (kz X Z) ρ1 H1 src J → Q J H1) fun c d H' => W c d σ H' := h2
  have e2 : (fun x G1 => ((g env G1).bind fun y G2 => R.ok [y] G2).bind fun xs G2 => R.ok (x :: xs) G2) = fun x G1 => (g env G1).bind fun y G2 => R.ok [x, y] G2 := by
    funext x G1
    cases g env G1 <;> rfl
  rw [e2] at h2
  refine tG_mono (step (rel := RU (kz X Z)) (rel' := RUs (kz X Z)) S e h2) fun v H1 ⟨ρ1, G1, x, p1, s1, S1, e1, r1, h1⟩ => ?_
  refine tG_mono (step (rel := RU (kz X Z)) (rel' := RUs (kz X Z)) S1 e1 h1) fun w H2 ⟨ρ2, G2, y, p2, s2, S2, e2, r2, h3⟩ => ?_
  obtain ⟨ρ3, G3, us, src, S3, r3, hk, q⟩ := h3 [v, w] ρ2 H2 pre_refl Stb.refl S2 (.cons (r1.mono p2 s2) (.cons r2 .nil))
  unfold kRevR at hk
  split at hk
  · rename_i i j
    split at hk
    · rename_i hb'
      cases hk
      obtain ⟨v', w', ev, rv, rw'⟩ := r3.two
      cases ev
      cases rv
      cases rw'
      exact ⟨i, j, rfl, rfl, hb'.1, hb'.2.1, hb'.2.2.1, hb'.2.2.2, q _ wk_rngC⟩
    · exact nomatch hk
  · obtain ⟨v', ev, _⟩ := r3.one
    cases ev
  · exact nomatch hk
end
end FL

set_option Elab.async false
set_option linter.all false
set_option maxRecDepth 100000
set_option maxHeartbeats 4000000
set_option autoImplicit false
/-! helpers for the printed derivations, the hook, the end -/
namespace FL
open PySem PySem.Spec L2

theorem takesW0 {X : Cx} : Takes X W0 := fun u s' x => by
  obtain ⟨a, B, sI, pins, σ, H, cls, d, e, I, nb, up, sky, na, os, ag, w⟩ := x
  exact w.elim
def badF : List U → Gp → R U := fun _ _ => .bad
theorem fnF_bad {P : Program} {w : World} {K : PySem.W.Frag} {mg : Str → Option Value} {base : Heap} {k : Nat} {f : Addr} {fd : FuncData} {ps : List Str} : FnF P w K mg base k f fd ps badF :=
  ⟨fun vs H Q E h => h.1, fun A outer s H args us vs Q E hr he hb hv hs => by
    obtain ⟨_, Z, ρ, G, us, _, _, _, h⟩ := hs
    exact h.elim⟩
theorem ar_bad {n : Nat} : Ar n badF := fun _ _ _ => rfl

def gAugAdd (x y : U) (G : Gp) : R U := match x, y with
  | .int i, .int j => .ok (.int (i + j)) G
  | _, _ => .bad
def bigN : Nat := 1000000000
theorem isFn_ty {K : PySem.W.Frag} {a : Addr} (h : PySem.W.isFn K (.ref a) = true) : PySem.W.typeIn K (.ref a) = some (.type "function") := eq_of_beq h

/-! ### the facts of a program's errors -/
def anc (t : List (Str × List Str)) (c : Str) : List Str := (t.lookup c).getD []
structure EX (K : PySem.W.Frag) (t : List (Str × List Str)) (ns : List Str) (ks : List (List Str)) (fl : List Str) : Prop where
  exm : ∀ p ∈ t, ∀ x ∈ ns, PySem.W.exmOne K (.ref (He.ga K p.1)) (.ref (He.ga K x)) = some (p.2.contains x)
  kit : ∀ c ∈ t.map (·.1), ∀ xs ∈ ks, PySem.W.kitAny K (.ref (He.ga K c)) (xs.map fun x => .ref (He.ga K x)) = some ((anc t c).any fun a => xs.contains a)
  no : ∀ c ∈ t.map (·.1), ∀ f ∈ fl, PySem.W.findIn K (.ref (He.ga K c)) f = some none
  xi : ∀ c ∈ t.map (·.1), XiK K (He.ga K c)
def exB (t : List (Str × List Str)) (ns : List Str) (ks : List (List Str)) (fl : List Str) (K : PySem.W.Frag) : Bool :=
  (t.all fun p => ns.all fun x => decide (PySem.W.exmOne K (.ref (He.ga K p.1)) (.ref (He.ga K x)) = some (p.2.contains x))) &&
  (((t.map (·.1)).all fun c => ks.all fun xs => decide (PySem.W.kitAny K (.ref (He.ga K c)) (xs.map fun x => .ref (He.ga K x)) = some ((anc t c).any fun a => xs.contains a))) &&
  (((t.map (·.1)).all fun c => fl.all fun f => decide (PySem.W.findIn K (.ref (He.ga K c)) f = some none)) &&
  ((t.map (·.1)).all fun c => xiB K (He.ga K c))))
theorem exB_ok {t : List (Str × List Str)} {ns : List Str} {ks : List (List Str)} {fl : List Str} {K : PySem.W.Frag} (h : exB t ns ks fl K = true) : EX K t ns ks fl := by
  obtain ⟨h1, h⟩ := Bool.and_eq_true_iff.mp h
  obtain ⟨h2, h⟩ := Bool.and_eq_true_iff.mp h
  obtain ⟨h3, h4⟩ := Bool.and_eq_true_iff.mp h
  exact ⟨fun p hp x hx => of_decide_eq_true (List.all_eq_true.mp (List.all_eq_true.mp h1 p hp) x hx),
    fun c hc xs hxs => of_decide_eq_true (List.all_eq_true.mp (List.all_eq_true.mp h2 c hc) xs hxs),
    fun c hc f hf => of_decide_eq_true (List.all_eq_true.mp (List.all_eq_true.mp h3 c hc) f hf),
    fun c hc => xiB_ok (List.all_eq_true.mp h4 c hc)⟩
theorem EX.hx {K : PySem.W.Frag} {t : List (Str × List Str)} {ns : List Str} {ks : List (List Str)} {fl : List Str} (e : EX K t ns ks fl) {x : Str} (hx : x ∈ ns) : ∀ c as, (c, as) ∈ t → PySem.W.exmOne K (.ref (He.ga K c)) (.ref (He.ga K x)) = some (as.contains x) := fun c as h => e.exm (c, as) h x hx
theorem paired_own {K : PySem.W.Frag} : ∀ xs : List Str, Paired ClsV (xs.map fun x => V.ref (He.ga K x)) (xs.map fun x => Value.ref (He.ga K x))
  | [] => .nil
  | _ :: r => .cons (.own _) (paired_own r)
def kitT (t : List (Str × List Str)) (c : Str) (xs : List Str) : Bool := (anc t c).any fun a => xs.contains a
theorem EX.kit1 {K : PySem.W.Frag} {t : List (Str × List Str)} {ns : List Str} {ks : List (List Str)} {fl : List Str} (e : EX K t ns ks fl) {c : Str} (hc : c ∈ t.map (·.1)) {x : Str} (hx : [x] ∈ ks) : PySem.W.kitOne K (.ref (He.ga K c)) (.ref (He.ga K x)) = some (kitT t c [x]) := by
  have h := e.kit c hc [x] hx
  have h : (match PySem.W.kitOne K (.ref (He.ga K c)) (.ref (He.ga K x)) with
    | some true => some true
    | some false => some false
    | none => none) = some (kitT t c [x]) := h
  cases q : PySem.W.kitOne K (.ref (He.ga K c)) (.ref (He.ga K x)) with
  | none => rw [q] at h; exact nomatch h
  | some b => rw [q] at h; cases b <;> exact h

/-! ### the hook: facts, defs, one more Bool -/
abbrev AlL : Type := He.AlD × Bool
def obsL (fa : List He.Fa) (fn : List He.DefD) (ex : PySem.W.Frag → Bool) (K : PySem.W.Frag) : AlL := (He.obsD fa fn K, ex K)
def SaysL (fa : List He.Fa) (fn : List He.DefD) (ex : PySem.W.Frag → Bool) (K : PySem.W.Frag) : Prop := He.SaysD fa fn K ∧ ex K = true
def obsLG (n : Nat) (fa : List He.Fa) (fn : List He.DefD) (ex : PySem.W.Frag → Bool) (g : Addr → Option Obj) : AlL := obsL fa fn ex (He.frG g (He.asD g n))
def hookL (n : Nat) (fa : List He.Fa) (fn : List He.DefD) (ex : PySem.W.Frag → Bool) : PySem.W.Hook where
  α := AlL
  obs := fun s => obsLG n fa fn ex s.heap.get?
  val := fun _ => (He.valD fn, true)
  says := fun _ h => ∃ K : PySem.W.Frag, K.In h ∧ SaysL fa fn ex K
  of := fun _ _ e => ⟨_, He.frG_in, congrArg (fun z : AlL => z.1) e, congrArg (fun z : AlL => z.2) e⟩
  keeps := fun _ _ _ ⟨K, hK, c⟩ k => ⟨K, PySem.W.Frag.In.keeps hK k, c⟩
theorem obsLG_eq {n : Nat} {fa : List He.Fa} {fn : List He.DefD} {ex : PySem.W.Frag → Bool} {g : Addr → Option Obj} {s : Shared} (h : ∀ a, g a = s.heap.get? a) : obsLG n fa fn ex g = (hookL n fa fn ex).obs s := by
  have e : g = s.heap.get? := funext h
  rw [e] <;> rfl

/-! ### the end -/
open PyProof.Rows in
theorem walk_ofEB {l : PySem.W.OpenLaw} {n k : Nat} {q : Program} {loose : List Str} {XP : (Str → Option Value) → Heap → Prop} {YP : World → Heap → Prop} {d : DefRec} {CX : World → CXT} {x : Str}
    (hn : l.most = some n) (hn2 : n ≤ sizeLine) (hdf : d.params.defaults = []) (hr : Room k callerA)
    (F : ∀ (w : World) (mg : Str → Option Value) (fa : Addr) (h : Heap), YP w h → h.Ns mainGlobals mg → mg d.name = some (.ref fa) →
      ∃ (K : PySem.W.Frag) (fd : FuncData) (sp : Sp), K.In h ∧ (∀ (s : Shared) (u : Value), BindsTo s fd ⟨[u], []⟩ [(x, u)]) ∧
        (∀ (H : Hp) (a : Addr) (ns : List Int), ns.length ≤ n → (∀ z ∈ ns, Builtin.Int.intBits z ≤ 1048576) → Only H → SqL K H a (ns.map V.int) → sp [.ref a] H (fun v _ => v = .bl true) fun _ _ _ => False) ∧
        ∀ base : Heap, K.In base → base.Ns mainGlobals mg → FnOk l.prog w K mg base (CX w) k fa fd [x] sp)
    (hCX : ∀ (w : World) (H : Hp) (s : Shared) (e : Value) (s' : Shared), CX w [] H s (fun _ _ _ => False) e s' → False) :
    PySem.W.WalkO q loose XP YP l.row.toRowW d [] (fun f vs => PySem.call f vs) := by
  refine Att.attach_callB hn hdf fun w s₀ s₁ mg mb fa o pm cd doc a vs ns G Y ho hd hcd hmg hobj hints hlen hbits hg => ?_
  obtain ⟨K, fd, sp, KX, hb, hsp, hF⟩ := F w mg fa _ Y G.T.g hmg
  exact law_call KX G.T.g G.T.b G.T.builtins G.T.nolimit hg hobj hints (Nat.le_trans hlen hn2) hr hF hb (fun H hO hS => hsp H a ns hlen hbits hO hS) fun H e s' => hCX w H s₁ e s'
theorem cx_false (P : Program) (w : World) (H : Hp) (s : Shared) (e : Value) (s' : Shared) (h : L2.CX P w [] H s (fun _ _ _ => False) e s') : False := by
  obtain ⟨a, B, H', cls, d, _, _, _, _, _, _, _, h⟩ := h
  exact h
theorem law_sp {K : PySem.W.Frag} {F : List U → Gp → R U} {ns : List Int} {H : Hp} {a : Addr} {E : XK} (h : ∃ G', F [.rl (ns.map U.int)] [] = .ok (.bl true) G') (hO : Only H) (hS : SqL K H a (ns.map V.int)) : spF K 1 F [.ref a] H (fun v _ => v = .bl true) E := by
  obtain ⟨G', h⟩ := h
  refine ⟨rfl, zT, [], [], [.rl (ns.map U.int)], rfl, ⟨rfl, List.nodup_nil, fun l o a h => by simp at h, trivial⟩, .cons (.rl ?_ (RUs.ints ns)) .nil, ?_⟩
  · rcases hS with (h | ⟨o, h⟩) | h
    · rcases hO a with e | ⟨o, xs, e⟩
      · rw [h] at e; cases e
      · rw [h] at e; cases e
    · exact .inl ⟨o, h⟩
    · exact .inr h
  · rw [h]
    intro b ρ' H' p s S r
    cases r
    rfl
end FL

set_option Elab.async false
set_option linter.all false
set_option maxRecDepth 100000
set_option maxHeartbeats 4000000
set_option autoImplicit false
/-! plain tools: what the combinators give -/
namespace FL
open PySem PySem.Spec L2
section
variable {α β : Type} {env env' : Ev} {G G' G1 : Gp}
@[simp] theorem r_bind_ok (a : α) (G : Gp) (k : α → Gp → R β) : (R.ok a G).bind k = k a G := id rfl
@[simp] theorem r_bind_exc (c : Str) (fs : List (Str × U)) (G : Gp) (k : α → Gp → R β) : (R.exc c fs G : R α).bind k = .exc c fs G := id rfl
@[simp] theorem r_bindN_ok (a : α) (G : Gp) (k : α → Gp → R β) : (R.ok a G).bindN k = k a G := id rfl
@[simp] theorem r_then_ok (a : α) (G : Gp) (e : Ev) (k : α → Gp → SR) : (R.ok a G).andThen e k = k a G := id rfl
@[simp] theorem r_then_exc (c : Str) (fs : List (Str × U)) (G : Gp) (e : Ev) (k : α → Gp → SR) : (R.exc c fs G : R α).andThen e k = .exc c fs e G := id rfl
@[simp] theorem eC_ (u : U) : eC u env G = .ok u G := id rfl
@[simp] theorem eVar_ (i : Nat) : eVar i env G = match env[i]? with
  | some (some u) => .ok u G
  | _ => .bad := id rfl
@[simp] theorem eBin_ (g : U → U → Gp → R U) (fa fb : Ev → Gp → R U) : eBin g fa fb env G = (fa env G).bind fun x G1 => (fb env G1).bind fun y G2 => g x y G2 := id rfl
@[simp] theorem eUn_ (g : U → Gp → R U) (fa : Ev → Gp → R U) : eUn g fa env G = (fa env G).bind g := id rfl
@[simp] theorem asB_ok (b : Bool) : asB (.ok (.bl b) G) = .ok b G := id rfl
@[simp] theorem bVal_ (f : Ev → Gp → R U) : bVal f env G = asB (f env G) := id rfl
@[simp] theorem tAndB_ (f g : Ev → Gp → R Bool) : tAndB f g env G = (f env G).bind fun c G1 => if c = true then g env G1 else .ok false G1 := id rfl
@[simp] theorem tOrB_ (f g : Ev → Gp → R Bool) : tOrB f g env G = (f env G).bind fun c G1 => if c = true then .ok true G1 else g env G1 := id rfl
@[simp] theorem tNotB_ (f : Ev → Gp → R Bool) : tNotB f env G = (f env G).bind fun c G1 => .ok (!c) G1 := id rfl
@[simp] theorem eAnd_ (f g : Ev → Gp → R U) : eAnd f g env G = (asB (f env G)).bind fun c G1 => if c = true then g env G1 else .ok (.bl false) G1 := id rfl
@[simp] theorem eOr_ (f g : Ev → Gp → R U) : eOr f g env G = (asB (f env G)).bind fun c G1 => if c = true then .ok (.bl true) G1 else g env G1 := id rfl
@[simp] theorem eNot_ (f : Ev → Gp → R U) : eNot f env G = (asB (f env G)).bind fun c G1 => .ok (.bl (!c)) G1 := id rfl
@[simp] theorem eIf_ (c : Ev → Gp → R Bool) (f g : Ev → Gp → R U) : eIf c f g env G = (c env G).bind fun b G1 => if b = true then f env G1 else g env G1 := id rfl
@[simp] theorem aNil_ : aNil env G = .ok [] G := id rfl
@[simp] theorem aCons_ (f : Ev → Gp → R U) (g : Ev → Gp → R (List U)) : aCons f g env G = (f env G).bind fun x G1 => (g env G1).bind fun xs G2 => .ok (x :: xs) G2 := id rfl
@[simp] theorem eTup_ (g : Ev → Gp → R (List U)) : eTup g env G = (g env G).bind fun xs G1 => if xs.length ≤ 16777216 then .ok (.tup xs) G1 else .bad := id rfl
@[simp] theorem eLst_ (g : Ev → Gp → R (List U)) : eLst g env G = (g env G).bind fun xs G1 => if xs.length ≤ 16777216 then .ok (.ref G1.length) (G1 ++ [.lst xs]) else .bad := id rfl
@[simp] theorem sNil_ : sNil env G = .nx env G := id rfl
@[simp] theorem sSeq_ (g1 g2 : Ev → Gp → SR) : sSeq g1 g2 env G = match g1 env G with
  | .nx env' G' => g2 env' G'
  | r => r := id rfl
theorem seq_nx {g1 g2 : Ev → Gp → SR} {e' : Ev} {G' : Gp} (h : g1 env G = .nx e' G') : sSeq g1 g2 env G = g2 e' G' := by rw [sSeq_, h]
@[simp] theorem sExpr_ (f : Ev → Gp → R U) : sExpr f env G = (f env G).andThen env fun _ G1 => .nx env G1 := id rfl
@[simp] theorem sRet_ (f : Ev → Gp → R U) : sRet f env G = (f env G).andThen env fun u G1 => .ret u G1 := id rfl
@[simp] theorem sRetN_ : sRetN env G = .ret .non G := id rfl
@[simp] theorem sBrk_ : sBrk env G = .brk env G := id rfl
@[simp] theorem sCt_ : sCt env G = .ct env G := id rfl
@[simp] theorem sIf_ (c : Ev → Gp → R Bool) (g1 g2 : Ev → Gp → SR) : sIf c g1 g2 env G = (c env G).andThen env fun b G1 => if b = true then g1 env G1 else g2 env G1 := id rfl
@[simp] theorem sAsg_ (f : Ev → Gp → R U) (gf : U → Ev → Gp → R Ev) : sAsg f gf env G = (f env G).andThen env fun u G1 => (gf u env G1).andThen env fun env' G2 => .nx env' G2 := id rfl
@[simp] theorem gNm_ (i : Nat) (u : U) : gNm i u env G = .ok (env.set i (some u)) G := id rfl
@[simp] theorem gNil_ : gNil [] env G = .ok env G := id rfl
@[simp] theorem gCons_ (g : U → Ev → Gp → R Ev) (gs : List U → Ev → Gp → R Ev) (u : U) (r : List U) : gCons g gs (u :: r) env G = (g u env G).bind fun env' G' => gs r env' G' := id rfl
@[simp] theorem gTup_ (gs : List U → Ev → Gp → R Ev) (n : Nat) (xs : List U) : gTup gs n (.tup xs) env G = if xs.length = n then gs xs env G else .bad := id rfl
@[simp] theorem sAug_ (i : Nat) (g : U → U → Gp → R U) (f : Ev → Gp → R U) : sAug i g f env G = (eVar i env G).andThen env fun x G0 => (f env G0).andThen env fun y G1 => (g x y G1).andThen env fun z G2 => .nx (env.set i (some z)) G2 := id rfl
@[simp] theorem eCall_ (g : List U → Gp → R U) (fa : Ev → Gp → R (List U)) : eCall g fa env G = (fa env G).bind g := id rfl
@[simp] theorem eCallK_ (F : List U → Gp → R U) (a b : Nat) (idx : List Nat) (fa fk : Ev → Gp → R (List U)) : eCallK F a b idx fa fk env G = (fa env G).bind fun us G1 => (fk env G1).bind fun ws G2 => F (gK a b idx us ws) G2 := id rfl
@[simp] theorem eSl_ (f : Ev → Gp → R U) (lo hi : Ev → Gp → R (Option Int)) : eSl f lo hi env G = (f env G).bind fun x G1 => (lo env G1).bind fun l G2 => (hi env G2).bind fun h G3 => gSl x l h G3 := id rfl
@[simp] theorem pNo_ : pNo env G = .ok none G := id rfl
@[simp] theorem pInt_ (f : Ev → Gp → R U) : pInt f env G = (f env G).bind fun u G1 => match u with
  | .int i => .ok (some i) G1
  | _ => .bad := id rfl
@[simp] theorem gSubE_ (fo fi : Ev → Gp → R U) (v : U) : gSubE fo fi v env G = (fo env G).bindN fun o G1 => (fi env G1).bindN fun i G2 => (setU o i v G2).bindN fun _ G3 => .ok env G3 := id rfl
/-- isinstance of a value -/
def isRes (tbl : List (String × Bool)) (u : U) (G : Gp) : R U := match tyN G u with
  | some n => match tbl.lookup n with
    | some b => .ok (.bl b) G
    | none => .bad
  | none => .bad
theorem isRes_of {tbl : List (String × Bool)} {u : U} {n : String} {b : Bool} (h1 : tyN G u = some n) (h2 : tbl.lookup n = some b) : isRes tbl u G = .ok (.bl b) G := by
  unfold isRes
  rw [h1]
  simp only [h2]
@[simp] theorem eIs_ (tbl : List (String × Bool)) (f : Ev → Gp → R U) : eIs tbl f env G = (f env G).bind fun u G1 => isRes tbl u G1 := id rfl
@[simp] theorem eChain_ (g g' : U → U → Gp → R U) (fa fb fc : Ev → Gp → R U) : eChain g g' fa fb fc env G = (fa env G).bind fun x G1 => (fb env G1).bind fun y G2 => (asB (g x y G2)).bind fun k G3 => if k = true then (fc env G3).bind fun z G4 => g' y z G4 else .ok (.bl false) G3 := id rfl
/-! operators on ints -/
@[simp] theorem gAdd_ii (i j : Int) : gAdd (.int i) (.int j) G = .ok (.int (i + j)) G := id rfl
@[simp] theorem gAug_ii (i j : Int) : gAugAdd (.int i) (.int j) G = .ok (.int (i + j)) G := id rfl
@[simp] theorem gSub_ii (i j : Int) : gSub (.int i) (.int j) G = .ok (.int (i - j)) G := id rfl
@[simp] theorem gNeg_i (i : Int) : gNeg (.int i) G = .ok (.int (-i)) G := id rfl
theorem gMul_ii {i j : Int} (h : mulOk i j = true) : gMul (.int i) (.int j) G = .ok (.int (i * j)) G := if_pos h
theorem gFdiv_ii {i j : Int} (h1 : 0 < j) (h2 : j.natAbs < 2 ^ 64) : gFdiv (.int i) (.int j) G = .ok (.int (i / j)) G := if_pos ⟨h1, Nat.lt_of_lt_of_le h2 (Nat.pow_le_pow_right (by decide) (by decide))⟩
theorem gMod_ii {i j : Int} (h1 : 0 < j) : gMod (.int i) (.int j) G = .ok (.int (i % j)) G := if_pos h1
@[simp] theorem gCmp_ii (p : Int → Int → Bool) (i j : Int) : gCmpI p (.int i) (.int j) G = .ok (.bl (p i j)) G := id rfl
@[simp] theorem eqU_ii (i j : Int) : eqU G (.int i) (.int j) = some (decide (i = j)) := id rfl
@[simp] theorem eqU_ss (i j : Str) : eqU G (.str i) (.str j) = some (decide (i = j)) := id rfl
@[simp] theorem eqU_bb (i j : Bool) : eqU G (.bl i) (.bl j) = some (decide (i = j)) := id rfl
@[simp] theorem gEq_ (x y : U) : gEq x y G = match eqU G x y with
  | some b => .ok (.bl b) G
  | none => .bad := id rfl
@[simp] theorem gNe_ (x y : U) : gNe x y G = match eqU G x y with
  | some b => .ok (.bl (!b)) G
  | none => .bad := id rfl
@[simp] theorem gIsN_ (x : U) : gIsN x .non G = .ok (.bl (match x with
    | .non => true
    | _ => false)) G := id rfl
@[simp] theorem gNotN_ (x : U) : gNotN x .non G = .ok (.bl (match x with
    | .non => false
    | _ => true)) G := id rfl
@[simp] theorem bInt_i (i : Int) : bInt [.int i] G = .ok (.int i) G := id rfl
@[simp] theorem bMax2_ii (i j : Int) : bMax2 [.int i, .int j] G = .ok (.int (max i j)) G := by
  show R.ok (U.int (if j > i then j else i)) G = _
  congr 2; split <;> omega
@[simp] theorem bMin2_ii (i j : Int) : bMin2 [.int i, .int j] G = .ok (.int (min i j)) G := by
  show R.ok (U.int (if j < i then j else i)) G = _
  congr 2; split <;> omega
theorem mulOk_small {i j : Int} (h : i.natAbs < 2 ^ 64) : mulOk i j = true := by
  unfold mulOk; simp [h]
theorem mulOk_small2 {i j : Int} (h : j.natAbs < 2 ^ 64) : mulOk i j = true := by
  unfold mulOk; simp [h]
theorem mulOk_bits {i j : Int} (h : Builtin.Int.intBits i ≤ 1048576) (h2 : Builtin.Int.intBits j ≤ 1048576) : mulOk i j = true := by
  unfold mulOk
  have : Builtin.Int.intBits i + Builtin.Int.intBits j ≤ 134217728 := by omega
  simp [this]
/-! sequences -/
@[simp] theorem seqU_tup (xs : List U) : seqU G (.tup xs) = some xs := id rfl
@[simp] theorem seqU_rl (xs : List U) : seqU G (.rl xs) = some xs := id rfl
@[simp] theorem seqU_wt (xs : List U) : seqU G (.wt xs) = some xs := id rfl
@[simp] theorem seqU_ref (l : Nat) : seqU G (.ref l) = match G[l]? with
  | some (.lst xs) => some xs
  | _ => none := id rfl
theorem bLen_seq {u : U} {xs : List U} (h : seqU G u = some xs) : bLen [u] G = .ok (.int xs.length) G := by
  cases u with
  | str z => exact nomatch h
  | _ => simp only [bLen, h]
@[simp] theorem bLen_tup (xs : List U) : bLen [.tup xs] G = .ok (.int xs.length) G := id rfl
@[simp] theorem bLen_rl (xs : List U) : bLen [.rl xs] G = .ok (.int xs.length) G := id rfl
@[simp] theorem bLen_wt (xs : List U) : bLen [.wt xs] G = .ok (.int xs.length) G := id rfl
theorem bTuple_seq {u : U} {xs : List U} (h : seqU G u = some xs) (hw : ∀ ys, u ≠ .wt ys := by intro _ h; cases h) : bTuple [u] G = .ok (.tup xs) G := by
  cases u with
  | wt ys => exact absurd rfl (hw ys)
  | _ => simp only [bTuple, h]
theorem bList_seq {u : U} {xs : List U} (h : seqU G u = some xs) : bList [u] G = .ok (.ref G.length) (G ++ [.lst xs]) := by simp only [bList, h]
theorem gIdx_seq {u : U} {xs : List U} {i : Int} {y : U} (h : seqU G u = some xs) (hi : atI xs i = some y) : gIdx u (.int i) G = .ok y G := by
  cases u with
  | str z => exact nomatch h
  | _ => simp only [gIdx, h, hi]
theorem gIdx_ref {l : Nat} {xs : List U} {i : Int} {y : U} (h : G[l]? = some (.lst xs)) (hi : atI xs i = some y) : gIdx (.ref l) (.int i) G = .ok y G := gIdx_seq (by simp only [seqU, h]) hi
theorem gIdx_tup {xs : List U} {i : Int} {y : U} (hi : atI xs i = some y) : gIdx (.tup xs) (.int i) G = .ok y G := gIdx_seq rfl hi
theorem atI_nat {α : Type} {xs : List α} {i : Nat} (h : i < xs.length) : atI xs (i : Int) = xs[i]? := by
  unfold atI ixN
  rw [if_pos (by omega), if_pos (by omega)]
  rfl
theorem atI_pos {α : Type} {xs : List α} {i : Int} {y : α} (h0 : 0 ≤ i) (h : xs[i.toNat]? = some y) : atI xs i = some y := by
  have hl := (List.getElem?_eq_some_iff.mp h).1
  unfold atI ixN
  rw [if_pos h0, if_pos (by omega)]
  exact h
theorem atI_last {α : Type} {xs : List α} {y : α} (h : xs.getLast? = some y) : atI xs (-1) = some y := by
  have hn : xs ≠ [] := fun e => by rw [e] at h; simp at h
  have hl : 0 < xs.length := List.length_pos_iff.mpr hn
  unfold atI ixN
  rw [if_neg (by omega), if_pos (by omega)]
  rw [List.getLast?_eq_getElem?] at h
  show xs[((-1 : Int) + (xs.length : Int)).toNat]? = some y
  rw [show ((-1 : Int) + (xs.length : Int)).toNat = xs.length - 1 by omega]
  exact h
theorem mAppend_ref {l : Nat} {xs : List U} {y : U} (h : G[l]? = some (.lst xs)) (hl : xs.length < 16777216) : mAppend (.ref l) [y] G = .ok .non (G.set l (.lst (xs ++ [y]))) := by
  simp only [mAppend, h, if_pos hl]
theorem isLst_ref {l : Nat} {xs : List U} (h : G[l]? = some (.lst xs)) : isLst (.ref l) G = true := by simp only [isLst, h]
theorem eMeth_ (g : U → List U → Gp → R U) (fo : Ev → Gp → R U) (fa : Ev → Gp → R (List U)) : eMeth g fo fa env G = (fo env G).bind fun o G1 => if isLst o G1 = true then (fa env G1).bind fun us G2 => g o us G2 else .bad := rfl
theorem setU_ref {l : Nat} {xs : List U} {i : Int} {v : U} (h : G[l]? = some (.lst xs)) (h0 : 0 ≤ i) (h1 : i < xs.length) : setU (.ref l) (.int i) v G = .ok () (G.set l (.lst (xs.set i.toNat v))) := by
  have e : ixN xs.length i = some i.toNat := by unfold ixN; rw [if_pos h0, if_pos h1]
  simp only [setU, h, e]
end
theorem iOfs_ok {f : Ev → Gp → R (List U)} {k : List U → Gp → Option Src} {us : List U} {G G1 : Gp} {env : Ev} {src : Src} (hf : f env G = .ok us G1) (e : k us G1 = some src) : iOfs f k env G = .ok src G1 := by
  unfold iOfs
  rw [hf, r_bind_ok, e]
theorem iOf_ok {f : Ev → Gp → R U} {k : U → Gp → Option Src} {u : U} {G G1 : Gp} {env : Ev} {src : Src} (hf : f env G = .ok u G1) (e : k u G1 = some src) : iOf f k env G = .ok src G1 := by
  unfold iOf
  rw [hf, r_bind_ok, e]
/-! a def's end -/
def fin (r : SR) : R U := match r with
  | .nx _ G' => .ok .non G'
  | .ret u G' => .ok u G'
  | .exc c fs _ G' => .exc c fs G'
  | _ => .bad
@[simp] theorem fin_nx (e : Ev) (G : Gp) : fin (.nx e G) = .ok .non G := id rfl
@[simp] theorem fin_ret (u : U) (G : Gp) : fin (.ret u G) = .ok u G := id rfl
@[simp] theorem fin_exc (c : Str) (fs : List (Str × U)) (e : Ev) (G : Gp) : fin (.exc c fs e G) = .exc c fs G := id rfl
theorem defF_eq {n m : Nat} {g : Ev → Gp → SR} {us : List U} (h : us.length = n) (G : Gp) {e : Ev} (he : startE m us = e) : defF n m g us G = fin (g e G) := by
  subst he
  unfold defF
  rw [if_pos h]
  cases g (startE m us) G <;> rfl
/-! ### loops -/
/-- what holds behind one turn -/
def after (r : SR) (N : Ev → Gp → Prop) (P : SR → Prop) : Prop := match r with
  | .nx e G => N e G
  | .ct e G => N e G
  | .brk e G => P (.nx e G)
  | r => P r
theorem forN_post {nth : Nat → Gp → Option (Option U)} {gf : U → Ev → Gp → R Ev} {body : Ev → Gp → SR} {xs : List U} (I : Nat → Ev → Gp → Prop) (P : SR → Prop)
    (hs : ∀ i env G, i ≤ xs.length → I i env G → nth i G = some xs[i]?) (step : ∀ (i : Nat) (hi : i < xs.length) (env : Ev) (G : Gp), I i env G → after ((gf xs[i] env G).andThen env fun env1 G1 => body env1 G1) (I (i + 1)) P)
    (fin : ∀ env G, I xs.length env G → P (.nx env G)) : ∀ (n i : Nat) (env : Ev) (G : Gp), xs.length < n + i → i ≤ xs.length → I i env G → P (forN nth gf body n i env G) := by
  intro n
  induction n with
  | zero => intro i env G h1 h2 _; omega
  | succ n ih =>
    intro i env G h1 h2 hI
    unfold forN
    rw [hs i env G h2 hI]
    by_cases hi : i < xs.length
    · rw [List.getElem?_eq_getElem hi]
      have st := step i hi env G hI
      simp only
      cases q : gf xs[i] env G with
      | ok e1 G1 =>
        rw [q] at st
        simp only [r_then_ok] at st ⊢
        cases qb : body e1 G1 with
        | nx e2 G2 => rw [qb] at st; exact ih (i + 1) e2 G2 (by omega) hi st
        | ct e2 G2 => rw [qb] at st; exact ih (i + 1) e2 G2 (by omega) hi st
        | brk e2 G2 => rw [qb] at st; exact st
        | ret u G2 => rw [qb] at st; exact st
        | exc c fs e2 G2 => rw [qb] at st; exact st
        | bad => rw [qb] at st; exact st
      | exc c fs G1 => rw [q] at st; exact st
      | bad => rw [q] at st; exact st
    · have e : i = xs.length := by omega
      subst e
      rw [List.getElem?_eq_none (Nat.le_refl _)]
      exact fin env G hI
/-- a source gives these items, as long as I holds -/
def Gives (src : Src) (xs : List U) (I : Nat → Ev → Gp → Prop) : Prop := xs.length < src.fuel ∧ ∀ i env G, i ≤ xs.length → I i env G → src.at_ i G = some xs[i]?
theorem gives_items {xs : List U} {I : Nat → Ev → Gp → Prop} : Gives (.items xs) xs I := ⟨Nat.lt_succ_self _, fun _ _ _ _ _ => rfl⟩
theorem sFor_post {fi : Ev → Gp → R Src} {gf : U → Ev → Gp → R Ev} {body : Ev → Gp → SR} {env : Ev} {G G1 : Gp} {src : Src} {xs : List U} (I : Nat → Ev → Gp → Prop) (P : SR → Prop) (hf : fi env G = .ok src G1) (hs : Gives src xs I) (h0 : I 0 env G1)
    (step : ∀ (i : Nat) (hi : i < xs.length) (env : Ev) (G : Gp), I i env G → after ((gf xs[i] env G).andThen env fun env1 G1 => body env1 G1) (I (i + 1)) P)
    (fin : ∀ env G, I xs.length env G → P (.nx env G)) : P (sFor fi gf body env G) := by
  unfold sFor
  rw [hf]
  simp only [r_then_ok]
  rw [sFor_run]
  exact forN_post (nth := src.nth) I P (fun i env G h1 h2 => hs.2 i env G h1 h2) step fin src.fuel 0 env G1 (by have := hs.1; omega) (Nat.zero_le _) h0
def rng (lo : Int) (n : Nat) : List U := (List.range n).map fun i => .int (lo + (i : Nat))
@[simp] theorem rng_len (lo : Int) (n : Nat) : (rng lo n).length = n := by simp [rng]
theorem rng_get {lo : Int} {n i : Nat} (h : i < (rng lo n).length) : (rng lo n)[i] = .int (lo + (i : Nat)) := by simp [rng]
theorem rng_get? (lo : Int) (n i : Nat) : (rng lo n)[i]? = if i < n then some (.int (lo + (i : Nat))) else none := by
  by_cases h : i < n
  · rw [if_pos h, List.getElem?_eq_getElem (by simpa using h), rng_get]
  · rw [if_neg h]; exact List.getElem?_eq_none (by simpa using h)
theorem p62 : (2 : Int) ^ 62 = 4611686018427387904 := by decide
theorem gives_rng1 {I : Nat → Ev → Gp → Prop} {j : Int} (h1 : -4611686018427387904 ≤ j) (h2 : j < 4611686018427387904) {G : Gp} : ∃ src, kRng1 [.int j] G = some src ∧ Gives src (rng 0 j.toNat) I :=
  ⟨.live (j.toNat + 1) fun i _ => some (if i < j.toNat then some (.int (0 + (i : Nat))) else none), if_pos ⟨by rw [p62]; exact h1, by rw [p62]; exact h2⟩, by simp [Src.fuel], fun i env G _ _ => congrArg some (rng_get? 0 j.toNat i).symm⟩
theorem gives_rng2 {I : Nat → Ev → Gp → Prop} {a j : Int} (h1 : -4611686018427387904 ≤ a) (h2 : a < 4611686018427387904) (h3 : -4611686018427387904 ≤ j) (h4 : j < 4611686018427387904) {G : Gp} : ∃ src, kRng2 [.int a, .int j] G = some src ∧ Gives src (rng a (j - a).toNat) I :=
  ⟨.live ((j - a).toNat + 1) fun i _ => some (if i < (j - a).toNat then some (.int (a + (i : Nat))) else none), if_pos ⟨by rw [p62]; exact h1, by rw [p62]; exact h2, by rw [p62]; exact h3, by rw [p62]; exact h4⟩, by simp [Src.fuel], fun i env G _ _ => congrArg some (rng_get? a (j - a).toNat i).symm⟩
theorem gives_ref {I : Nat → Ev → Gp → Prop} {l : Nat} {xs : List U} {G : Gp} (h : G[l]? = some (.lst xs)) (hI : ∀ i env G, I i env G → G[l]? = some (.lst xs)) : ∃ src, kSeq (.ref l) G = some src ∧ Gives src xs I := by
  refine ⟨.live (xs.length + 1) fun i G => match G[l]? with
    | some (.lst ys) => some ys[i]?
    | _ => none, by unfold kSeq; (simp only [h] <;> rfl), by simp [Src.fuel], fun i env G hi h2 => ?_⟩
  show (match G[l]? with
    | some (.lst ys) => some ys[i]?
    | _ => none) = _
  rw [hI i env G h2]
/-! for over written items, as a fold -/
theorem sFor_rng1 {fa : Ev → Gp → R (List U)} {gf : U → Ev → Gp → R Ev} {body : Ev → Gp → SR} {env : Ev} {G G1 : Gp} {j : Int} (I : Nat → Ev → Gp → Prop) (P : SR → Prop) (hf : fa env G = .ok [.int j] G1) (h1 : -4611686018427387904 ≤ j) (h2 : j < 4611686018427387904) (h0 : I 0 env G1)
    (step : ∀ (i : Nat) (hi : i < j.toNat) (env : Ev) (G : Gp), I i env G → after ((gf (.int (i : Nat)) env G).andThen env fun env1 G1 => body env1 G1) (I (i + 1)) P)
    (fin : ∀ env G, I j.toNat env G → P (.nx env G)) : P (sFor (iOfs fa kRng1) gf body env G) := by
  obtain ⟨src, e, g⟩ := gives_rng1 (I := I) h1 h2 (G := G1)
  refine sFor_post (src := src) (G1 := G1) I P (iOfs_ok hf e) g h0 (fun i hi env G hI => ?_) (fun env G hI => fin env G (by simpa using hI))
  rw [rng_get]
  have := step i (by simpa using hi) env G hI
  rw [show (0 : Int) + ((i : Nat) : Int) = ((i : Nat) : Int) by omega]
  exact this
theorem sFor_rng2 {fa : Ev → Gp → R (List U)} {gf : U → Ev → Gp → R Ev} {body : Ev → Gp → SR} {env : Ev} {G G1 : Gp} {a j : Int} (I : Nat → Ev → Gp → Prop) (P : SR → Prop) (hf : fa env G = .ok [.int a, .int j] G1) (h1 : -4611686018427387904 ≤ a) (h2 : a < 4611686018427387904) (h3 : -4611686018427387904 ≤ j) (h4 : j < 4611686018427387904) (h0 : I 0 env G1)
    (step : ∀ (i : Nat) (hi : i < (j - a).toNat) (env : Ev) (G : Gp), I i env G → after ((gf (.int (a + (i : Nat))) env G).andThen env fun env1 G1 => body env1 G1) (I (i + 1)) P)
    (fin : ∀ env G, I (j - a).toNat env G → P (.nx env G)) : P (sFor (iOfs fa kRng2) gf body env G) := by
  obtain ⟨src, e, g⟩ := gives_rng2 (I := I) h1 h2 h3 h4 (G := G1)
  refine sFor_post (src := src) (G1 := G1) I P (iOfs_ok hf e) g h0 (fun i hi env G hI => ?_) (fun env G hI => fin env G (by simpa using hI))
  rw [rng_get]
  exact step i (by simpa using hi) env G hI
theorem sFor_tup {f : Ev → Gp → R U} {gf : U → Ev → Gp → R Ev} {body : Ev → Gp → SR} {env : Ev} {G G1 : Gp} {xs : List U} (I : Nat → Ev → Gp → Prop) (P : SR → Prop) (hf : f env G = .ok (.tup xs) G1) (h0 : I 0 env G1)
    (step : ∀ (i : Nat) (hi : i < xs.length) (env : Ev) (G : Gp), I i env G → after ((gf xs[i] env G).andThen env fun env1 G1 => body env1 G1) (I (i + 1)) P)
    (fin : ∀ env G, I xs.length env G → P (.nx env G)) : P (sFor (iOf f kSeq) gf body env G) :=
  sFor_post (src := .items xs) (G1 := G1) I P (by simp [iOf, hf, kSeq]) gives_items h0 step fin
theorem sFor_ref {f : Ev → Gp → R U} {gf : U → Ev → Gp → R Ev} {body : Ev → Gp → SR} {env : Ev} {G G1 : Gp} {l : Nat} {xs : List U} (I : Nat → Ev → Gp → Prop) (P : SR → Prop) (hf : f env G = .ok (.ref l) G1) (hl : G1[l]? = some (.lst xs)) (hI : ∀ i env G, I i env G → G[l]? = some (.lst xs)) (h0 : I 0 env G1)
    (step : ∀ (i : Nat) (hi : i < xs.length) (env : Ev) (G : Gp), I i env G → after ((gf xs[i] env G).andThen env fun env1 G1 => body env1 G1) (I (i + 1)) P)
    (fin : ∀ env G, I xs.length env G → P (.nx env G)) : P (sFor (iOf f kSeq) gf body env G) := by
  obtain ⟨src, e, g⟩ := gives_ref (I := I) hl hI
  exact sFor_post (src := src) (G1 := G1) I P (iOf_ok hf e) g h0 step fin
/-! while: a measure -/
theorem while_post {fc : Ev → Gp → R Bool} {body : Ev → Gp → SR} (I : Ev → Gp → Prop) (m : Ev → Gp → Nat) (P : SR → Prop)
    (step : ∀ env G, I env G → ∃ b, ∃ G1, fc env G = .ok b G1 ∧ (b = true → after (body env G1) (fun e G' => I e G' ∧ m e G' < m env G) P) ∧ (b = false → P (.nx env G1))) : ∀ (n : Nat) (env : Ev) (G : Gp), I env G → m env G < n → P (whileN fc body n env G) := by
  intro n
  induction n with
  | zero => intro env G _ h; omega
  | succ n ih =>
    intro env G hI hm
    obtain ⟨b, G1, e, h1, h2⟩ := step env G hI
    unfold whileN
    rw [e]
    simp only [r_then_ok]
    cases b with
    | false => exact h2 rfl
    | true =>
      have h1 := h1 rfl
      rw [if_pos rfl]
      cases qb : body env G1 with
      | nx e2 G2 => rw [qb] at h1; exact ih e2 G2 h1.1 (by have := h1.2; omega)
      | ct e2 G2 => rw [qb] at h1; exact ih e2 G2 h1.1 (by have := h1.2; omega)
      | brk e2 G2 => rw [qb] at h1; exact h1
      | ret u G2 => rw [qb] at h1; exact h1
      | exc c fs e2 G2 => rw [qb] at h1; exact h1
      | bad => rw [qb] at h1; exact h1
/-! comprehensions -/
theorem compN_post {nth : Nat → Gp → Option (Option U)} {gf : U → Ev → Gp → R Ev} {ft : Ev → Gp → R Bool} {fe : Ev → Gp → R U} {l : Nat} {env0 : Ev} {xs : List U} (I : Nat → List U → Gp → Prop) (P : R U → Prop)
    (hs : ∀ i acc G, i ≤ xs.length → I i acc G → nth i G = some xs[i]?) (hlen : xs.length < 16777216)
    (step : ∀ (i : Nat) (hi : i < xs.length) (acc : List U) (G : Gp), I i acc G → G[l]? = some (.lst acc) → ∃ env1 G1 b G2, gf xs[i] env0 G = .ok env1 G1 ∧ ft env1 G1 = .ok b G2 ∧ (b = true → ∃ y G3, fe env1 G2 = .ok y G3 ∧ G3[l]? = some (.lst acc) ∧ I (i + 1) (acc ++ [y]) (G3.set l (.lst (acc ++ [y])))) ∧ (b = false → G2[l]? = some (.lst acc) ∧ I (i + 1) acc G2))
    (fin : ∀ acc G, acc.length ≤ xs.length → I xs.length acc G → G[l]? = some (.lst acc) → P (.ok (.ref l) G)) : ∀ (n i : Nat) (acc : List U) (G : Gp), xs.length < n + i → i ≤ xs.length → acc.length ≤ i → I i acc G → G[l]? = some (.lst acc) → P (compN nth gf ft fe l env0 n i G) := by
  intro n
  induction n with
  | zero => intro i acc G h1 h2 _ _ _; omega
  | succ n ih =>
    intro i acc G h1 h2 ha hI hl
    unfold compN
    rw [hs i acc G h2 hI]
    by_cases hi : i < xs.length
    · rw [List.getElem?_eq_getElem hi]
      obtain ⟨env1, G1, b, G2, e1, e2, h3, h4⟩ := step i hi acc G hI hl
      simp only [e1, e2, r_bindN_ok]
      cases b with
      | false =>
        obtain ⟨h5, h6⟩ := h4 rfl
        rw [if_neg (by decide)]
        exact ih (i + 1) acc G2 (by omega) hi (by omega) h6 h5
      | true =>
        obtain ⟨y, G3, e3, h5, h6⟩ := h3 rfl
        rw [if_pos rfl]
        simp only [e3, r_bindN_ok, h5]
        rw [if_pos (by omega)]
        refine ih (i + 1) (acc ++ [y]) _ (by omega) hi (by simp; omega) h6 ?_
        rw [List.getElem?_set_self (List.getElem?_eq_some_iff.mp h5).1]
    · have e : i = xs.length := by omega
      subst e
      rw [List.getElem?_eq_none (Nat.le_refl _)]
      exact fin acc G ha hI hl
theorem eComp_post {own : List Nat} {fi : Ev → Gp → R Src} {gf : U → Ev → Gp → R Ev} {ft : Ev → Gp → R Bool} {fe : Ev → Gp → R U} {env : Ev} {G G1 : Gp} {src : Src} {xs : List U} (I : Nat → List U → Gp → Prop) (P : R U → Prop) (hf : fi env G = .ok src G1)
    (hs : xs.length < src.fuel ∧ ∀ i acc G, i ≤ xs.length → I i acc G → src.at_ i G = some xs[i]?) (hlen : xs.length < 16777216) (h0 : I 0 [] (G1 ++ [.lst []]))
    (step : ∀ (i : Nat) (hi : i < xs.length) (acc : List U) (G : Gp), I i acc G → G[G1.length]? = some (.lst acc) → ∃ env1 G1' b G2, gf xs[i] (wipeE env own) G = .ok env1 G1' ∧ ft env1 G1' = .ok b G2 ∧ (b = true → ∃ y G3, fe env1 G2 = .ok y G3 ∧ G3[G1.length]? = some (.lst acc) ∧ I (i + 1) (acc ++ [y]) (G3.set G1.length (.lst (acc ++ [y])))) ∧ (b = false → G2[G1.length]? = some (.lst acc) ∧ I (i + 1) acc G2))
    (fin : ∀ acc G, acc.length ≤ xs.length → I xs.length acc G → G[G1.length]? = some (.lst acc) → P (.ok (.ref G1.length) G)) : P (eComp own fi gf ft fe env G) := by
  unfold eComp
  rw [hf]
  simp only [r_bind_ok]
  rw [eComp_run]
  exact compN_post (nth := src.nth) I P (fun i acc G h1 h2 => hs.2 i acc G h1 h2) hlen step fin src.fuel 0 [] _ (by have := hs.1; omega) (Nat.zero_le _) (Nat.le_refl _) h0 (by simp)
/-! equal lists of ints -/
def dInts (ns : List Int) : List PyData := ns.map PyData.int
theorem toD_ints (n : Nat) (G : Gp) : ∀ ns : List Int, optAll (toD G n) (ns.map U.int) = some (dInts ns)
  | [] => rfl
  | i :: r => by
    have h : toD G n (.int i) = some (.int i) := by cases n <;> rfl
    rw [List.map_cons]
    unfold optAll
    rw [h, toD_ints n G r]
    rfl
theorem lay_ints : ∀ ns : List Int, PyData.canLayAll0 (dInts ns) = true
  | [] => by simp [dInts, PyData.canLayAll0]
  | i :: r => by
    have := lay_ints r
    unfold dInts at *
    simp [PyData.canLayAll0, PyData.canLay0, this]
theorem depth_ints : ∀ ns : List Int, PyData.depthAll (dInts ns) = 0
  | [] => by simp [dInts, PyData.depthAll]
  | i :: r => by
    have := depth_ints r
    unfold dInts at *
    simp [PyData.depthAll, PyData.depth, this]
theorem eqv_ints : ∀ ns ms : List Int, PyData.eqvAll (dInts ns) (dInts ms) = decide (ns = ms)
  | [], [] => by simp [dInts, PyData.eqvAll]
  | [], _ :: _ => by simp [dInts, PyData.eqvAll]
  | _ :: _, [] => by simp [dInts, PyData.eqvAll]
  | i :: r, j :: s => by
    have := eqv_ints r s
    unfold dInts at *
    simp only [List.map_cons, PyData.eqvAll, PyData.eqv, this, List.cons.injEq, Bool.decide_and]
    congr 1
theorem shaped_list (ns : List Int) : SeqAt.shaped (.list (dInts ns)) = true := by
  unfold SeqAt.shaped
  simp [PyData.canLay0, lay_ints, PyData.depth, depth_ints]
theorem shaped_tup (ns : List Int) : SeqAt.shaped (.tuple (dInts ns)) = true := by
  unfold SeqAt.shaped
  simp [PyData.canLay0, lay_ints, PyData.depth, depth_ints]
theorem eqU_refs {G : Gp} {l m : Nat} {ns ms : List Int} (h1 : G[l]? = some (.lst (ns.map .int))) (h2 : G[m]? = some (.lst (ms.map .int))) : eqU G (.ref l) (.ref m) = some (decide (ns = ms)) := by
  have e1 : toD G 40 (.ref l) = some (.list (dInts ns)) := by
    show (match G[l]? with
      | some (.lst xs) => (optAll (toD G 39) xs).map PyData.list
      | _ => none) = _
    rw [h1]; simp only [toD_ints]; rfl
  have e2 : toD G 40 (.ref m) = some (.list (dInts ms)) := by
    show (match G[m]? with
      | some (.lst xs) => (optAll (toD G 39) xs).map PyData.list
      | _ => none) = _
    rw [h2]; simp only [toD_ints]; rfl
  show (match toD G 40 (.ref l), toD G 40 (.ref m) with
    | some d, some e => if SeqAt.shaped d = true ∧ SeqAt.shaped e = true then some (PyData.eqv d e) else none
    | _, _ => none) = _
  rw [e1, e2]
  simp only [shaped_list, and_self, if_true, PyData.eqv, eqv_ints]
end FL

set_option Elab.async false
set_option linter.all false
set_option maxRecDepth 100000
set_option maxHeartbeats 4000000
set_option autoImplicit false
/-! all, any of a list of bools; list.insert -/
namespace FL
open PySem PySem.Spec L2
def boolsU : List U → Option (List Bool)
  | [] => some []
  | .bl b :: r => (boolsU r).map (b :: ·)
  | _ => none
theorem boolsU_map : ∀ l : List Bool, boolsU (l.map .bl) = some l
  | [] => rfl
  | x :: r => by rw [List.map_cons]; unfold boolsU; rw [boolsU_map r]; rfl
def bBools (g : List Bool → Bool) (us : List U) (G : Gp) : R U := match us with
  | [.ref l] => match G[l]? with
    | some (.lst xs) => match boolsU xs with
      | some bs => .ok (.bl (g bs)) G
      | none => .bad
    | _ => .bad
  | _ => .bad
abbrev bAll := bBools (fun bs => bs.all id)
abbrev bAny := bBools (fun bs => bs.any id)
theorem bBools_ref {g : List Bool → Bool} {l : Nat} {bs : List Bool} {G : Gp} (h : G[l]? = some (.lst (bs.map .bl))) : bBools g [.ref l] G = .ok (.bl (g bs)) G := by
  unfold bBools
  simp only [h, boolsU_map]
section
variable {K : KZ}
theorem boolsU_rel {ρ : List Addr} {H : Hp} : ∀ {xs : List U} {vs : List V} {bs : List Bool}, RUs K ρ H xs vs → boolsU xs = some bs → vs = bs.map V.bl
  | _, _, bs, .nil, h => by cases h; rfl
  | _, _, bs, .cons (x := x) (xs := xs) hx ht, h => by
    cases hx with
    | bl i =>
      unfold boolsU at h
      cases q : boolsU xs with
      | none => rw [q] at h; exact nomatch h
      | some ms =>
        rw [q] at h
        cases h
        rw [boolsU_rel ht q]; rfl
    | _ => exact nomatch h
theorem bBools_ok {g : List Bool → Bool} {ρ : List Addr} {G : Gp} {H : Hp} {us : List U} {vs : List V} {Q : VK} {E : XK} (S : Sim K ρ G H) (r : RUs K ρ H us vs) (h : Post K (RU K) ρ H (bBools g us G) Q E) :
    ∃ (a : Addr) (bs : List Bool), vs = [.ref a] ∧ SqL K.K H a (bs.map V.bl) ∧ Q (.bl (g bs)) H := by
  unfold bBools at h
  split at h
  · rename_i l
    obtain ⟨v, rfl, rv⟩ := r.one
    cases rv with
    | @ref _ a ha =>
      cases q : G[l]? with
      | none => rw [q] at h; exact h.elim
      | some o =>
        rw [q] at h
        cases o with
        | lst xs =>
          simp only at h
          cases q2 : boolsU xs with
          | none => rw [q2] at h; exact h.elim
          | some bs =>
            rw [q2] at h
            obtain ⟨ws, e1, r1⟩ := S.list ha q
            have e := boolsU_rel r1 q2
            subst e
            exact ⟨a, bs, rfl, SqL.of e1, h.end_ S (.bl _)⟩
        | _ => exact h.elim
  · exact h.elim
theorem oAll : OpN K (rAll K.K) bAll := by
  intro ρ G H us vs Q E S r h
  exact bBools_ok S r h
theorem oAny : OpN K (rAny K.K) bAny := by
  intro ρ G H us vs Q E S r h
  exact bBools_ok S r h
def rInsert : V → List V → Hp → VK → Prop := fun x vs H Q => ∃ (l : Addr) (xs : List V) (i : Int) (y : V), x = .ref l ∧ vs = [.int i, y] ∧ H l = some (.lst xs) ∧ xs.length < sizeLine ∧ 0 ≤ i ∧ i < 2 ^ 63 ∧
    Q .non (upd H l (.lst (xs.take i.toNat ++ [y] ++ xs.drop i.toNat)))
def mInsert (x : U) (us : List U) (G : Gp) : R U := match x, us with
  | .ref l, [.int i, y] => if 0 ≤ i ∧ i < 2 ^ 63 then match G[l]? with
    | some (.lst xs) => if xs.length < 16777216 then .ok .non (G.set l (.lst (xs.take i.toNat ++ [y] ++ xs.drop i.toNat))) else .bad
    | _ => .bad
    else .bad
  | _, _ => .bad
theorem mInsert_ref {l : Nat} {xs : List U} {y : U} {i : Int} {G : Gp} (h : G[l]? = some (.lst xs)) (h0 : 0 ≤ i) (h1 : i < 2 ^ 63) (hl : xs.length < 16777216) : mInsert (.ref l) [.int i, y] G = .ok .non (G.set l (.lst (xs.take i.toNat ++ [y] ++ xs.drop i.toNat))) := by
  unfold mInsert
  simp only [if_pos (And.intro h0 h1), h, if_pos hl]
theorem oInsert : OpM K rInsert mInsert := by
  intro ρ G H x v us vs Q E S rx rs h
  unfold mInsert at h
  split at h
  · rename_i l i y
    by_cases hi : 0 ≤ i ∧ i < 2 ^ 63
    · rw [if_pos hi] at h
      cases rx with
      | @ref _ a ha =>
        obtain ⟨w0, w1, rfl, rw0, rw1⟩ := rs.two
        cases rw0
        cases q : G[l]? with
        | none => rw [q] at h; exact h.elim
        | some o =>
          rw [q] at h
          cases o with
          | lst xs =>
            obtain ⟨ws, e, r⟩ := S.list ha q
            simp only at h
            by_cases hl : xs.length < 16777216
            · rw [if_pos hl] at h
              exact ⟨a, ws, i, w1, rfl, rfl, e, by rw [← r.len, line_eq]; exact hl, hi.1, hi.2, updEnd (xs := xs) S ha e (((r.take i.toNat).append (.cons rw1 .nil)).append (r.drop i.toNat)) .non h⟩
            · rw [if_neg hl] at h; exact h.elim
          | _ => exact h.elim
    · rw [if_neg hi] at h; exact h.elim
  · exact h.elim
end
section
variable {X : Cx} {Z : ZZ X.K} {W : WX} {e : Expr} {fa : Ev → Gp → R (List U)} {p pos : Pos}
theorem mtInsert : MtR X "list.insert" rInsert := mt_insert
theorem fall (hc : X.calm = true) (hm : X.mg "all" = none) (ha : FA X Z W [e] fa) (hg : Gl X "all" := by rfl) (he : starEach [e] X.env = (false, eval e X.env) :: starEach [] X.env := by rfl) (hpl : (backTo pos (starEach [] X.env)).any (·.1) = false := by rfl) : FE X Z W (.Call (.Name "all" p) [e] [] pos) (eCall bAll fa) :=
  fcallB oAll (cr_all hc) hg hm (by decide +kernel) ha (by decide) (by decide) he hpl
theorem fany (hc : X.calm = true) (hm : X.mg "any" = none) (ha : FA X Z W [e] fa) (hg : Gl X "any" := by rfl) (he : starEach [e] X.env = (false, eval e X.env) :: starEach [] X.env := by rfl) (hpl : (backTo pos (starEach [] X.env)).any (·.1) = false := by rfl) : FE X Z W (.Call (.Name "any" p) [e] [] pos) (eCall bAny fa) :=
  fcallB oAny (cr_any hc) hg hm (by decide +kernel) ha (by decide) (by decide) he hpl
end
end FL

set_option Elab.async false
set_option linter.all false
set_option maxRecDepth 100000
set_option maxHeartbeats 4000000
set_option autoImplicit false
/-! is True, is False; list(range(..)), tuple(range(..)) -/
namespace FL
open PySem PySem.Spec L2
def gIsB (x y : U) (G : Gp) : R U := match x, y with
  | .bl a, .bl b => .ok (.bl (decide (a = b))) G
  | _, _ => .bad
def gNotB (x y : U) (G : Gp) : R U := match x, y with
  | .bl a, .bl b => .ok (.bl (!decide (a = b))) G
  | _, _ => .bad
@[simp] theorem gIsB_ (a b : Bool) (G : Gp) : gIsB (.bl a) (.bl b) G = .ok (.bl (decide (a = b))) G := id rfl
@[simp] theorem gNotB_ (a b : Bool) (G : Gp) : gNotB (.bl a) (.bl b) G = .ok (.bl (!decide (a = b))) G := id rfl
def rgI (a b : Int) : List Int := (List.range (b - a).toNat).map fun i => a + (i : Nat)
def rgOk (a b : Int) : Prop := -(2 ^ 62) ≤ a ∧ a < 2 ^ 62 ∧ -(2 ^ 62) ≤ b ∧ b < 2 ^ 62 ∧ (b - a).toNat ≤ 2 ^ 24
instance (a b : Int) : Decidable (rgOk a b) := by unfold rgOk; infer_instance
def gRgL (x y : U) (G : Gp) : R U := match x, y with
  | .int a, .int b => if rgOk a b then .ok (.ref G.length) (G ++ [.lst ((rgI a b).map .int)]) else .bad
  | _, _ => .bad
theorem gRgL_ok {a b : Int} {G : Gp} (h1 : -1000000 ≤ a) (h2 : a < 1000000) (h3 : -1000000 ≤ b) (h4 : b < 1000000) : gRgL (.int a) (.int b) G = .ok (.ref G.length) (G ++ [.lst ((rgI a b).map .int)]) := by
  have e62 : (2 : Int) ^ 62 = 4611686018427387904 := by decide
  have e24 : 2 ^ 24 = 16777216 := by decide
  exact if_pos ⟨by rw [e62]; omega, by rw [e62]; omega, by rw [e62]; omega, by rw [e62]; omega, by rw [e24]; omega⟩
section
variable {K : KZ}
theorem o2IsB : Op2 K (fun x y H Q => ∃ a b, x = .bl a ∧ y = .bl b ∧ Q (.bl (decide (a = b))) H) gIsB := by
  intro ρ G H x y v w Q E S rx ry h
  cases rx with
  | bl a =>
    cases ry with
    | bl b => exact ⟨a, b, rfl, rfl, h.end_ S (.bl _)⟩
    | _ => exact h.elim
  | _ => cases ry <;> exact h.elim
theorem o2NotB : Op2 K (fun x y H Q => ∃ a b, x = .bl a ∧ y = .bl b ∧ Q (.bl (!decide (a = b))) H) gNotB := by
  intro ρ G H x y v w Q E S rx ry h
  cases rx with
  | bl a =>
    cases ry with
    | bl b => exact ⟨a, b, rfl, rfl, h.end_ S (.bl _)⟩
    | _ => exact h.elim
  | _ => cases ry <;> exact h.elim
theorem rgV_eq (a b : Int) : rgV a b = (rgI a b).map V.int := by
  unfold rgV rgI
  rw [List.map_map]
  rfl
end
section
variable {X : Cx} {Z : ZZ X.K} {W : WX} {a b : Expr} {fa fb : Ev → Gp → R U} {p q pos pos2 : Pos}
theorem fisB (ha : FE X Z W a fa) (hb : FE X Z W b fb) : FE X Z W (.Compare a [.Is] [b] pos) (eBin gIsB fa fb) := fcmp o2IsB op_is_bl ha hb (nomark _)
theorem fnotB (ha : FE X Z W a fa) (hb : FE X Z W b fb) : FE X Z W (.Compare a [.IsNot] [b] pos) (eBin gNotB fa fb) := fcmp o2NotB op_isnot_bl ha hb (nomark _)
theorem tisB (ha : FE X Z W a fa) (hb : FE X Z W b fb) : FT X Z W (.Compare a [.Is] [b] pos) (bVal (eBin gIsB fa fb)) := ft_cmp o2IsB op_is_bl ha hb (nomark _)
theorem tnotB (ha : FE X Z W a fa) (hb : FE X Z W b fb) : FT X Z W (.Compare a [.IsNot] [b] pos) (bVal (eBin gNotB fa fb)) := ft_cmp o2NotB op_isnot_bl ha hb (nomark _)
theorem flistRg2 (hc : X.calm = true) (hml : X.mg "list" = none) (hmr : X.mg "range" = none) (ha : FE X Z W a fa) (hb : FE X Z W b fb) (hgl : Gl X "list" := by rfl) (hgr : Gl X "range" := by rfl)
    (na : starEach [.Call (.Name "range" q) [a, b] [] pos2] X.env = (false, eval (.Call (.Name "range" q) [a, b] [] pos2) X.env) :: starEach [] X.env := by rfl)
    (na2 : starEach [a, b] X.env = (false, eval a X.env) :: starEach [b] X.env := by rfl) (nb : starEach [b] X.env = (false, eval b X.env) :: starEach [] X.env := by rfl) (hp : (backTo pos2 (starEach [b] X.env)).any (·.1) = false := by rfl) :
    FE X Z W (.Call (.Name "list" p) [.Call (.Name "range" q) [a, b] [] pos2] [] pos) (eBin gRgL fa fb) := by
  refine PEimp (pe_listRg hc hgl hml (prg_2 hgr hmr ha hb na2 nb hp) na) fun σ H Q ⟨ρ, G, env, S, e, h⟩ => ?_
  refine tG_mono (step S e h) fun v H1 ⟨ρ1, G1, x, p1, s1, S1, e1, r1, h1⟩ => ?_
  refine tG_mono (step S1 e1 h1) fun w H2 ⟨ρ2, G2, y, p2, s2, S2, e2, r2, h2⟩ => ?_
  have r1 := r1.mono p2 s2
  cases r1 with
  | int i =>
    cases r2 with
    | int j =>
      have h2 : Post _ _ _ _ (if rgOk i j then R.ok (U.ref G2.length) (G2 ++ [.lst ((rgI i j).map .int)]) else .bad) _ _ := h2
      by_cases hr : rgOk i j
      · rw [if_pos hr] at h2
        refine ⟨i, j, rfl, rfl, hr, ?_⟩
        rw [rgV_eq]
        exact newLst S2 (RUs.ints _) h2
      · rw [if_neg hr] at h2; exact h2.elim
    | _ => exact h2.elim
  | _ => cases r2 <;> exact h2.elim
end
end FL

set_option Elab.async false
set_option linter.all false
set_option maxRecDepth 100000
set_option maxHeartbeats 4000000
set_option autoImplicit false
/-! dicts (keys ints and texts): {}, in, d[k] = v, len, pop; list.reverse, list.extend; math.comb; a module's tuple -/
namespace FL
open PySem PySem.Spec L2
theorem u1 {n : Nat} (h : n + 64 < cLine) : n + 1 < cLine := by omega
def keyEq1 : U → U → Bool
  | .int a, .int b => decide (a = b)
  | .str a, .str b => decide (a = b)
  | _, _ => false
def keysEq : List U → List U → Bool
  | [], [] => true
  | x :: xs, y :: ys => keyEq1 x y && keysEq xs ys
  | _, _ => false
def keyEq : U → U → Bool
  | .tup a, .tup b => keysEq a b
  | x, y => keyEq1 x y
def isK : U → Bool
  | .int _ => true
  | .str _ => true
  | _ => false
def isKT : U → Bool
  | .tup xs => xs.all isK
  | _ => false
def dGet (kvs : List (U × U)) (k : U) : Option U := (kvs.find? fun p => keyEq p.1 k).map (·.2)
def dPut (kvs : List (U × U)) (k v : U) : List (U × U) := if (kvs.any fun p => keyEq p.1 k) = true then kvs.map (fun p => if keyEq p.1 k = true then (p.1, v) else p) else kvs ++ [(k, v)]
def dDrop (kvs : List (U × U)) (k : U) : List (U × U) := kvs.filter fun p => !keyEq p.1 k
/-- {}: a dict whose keys are ints and texts (false), tuples of them (true) -/
def dOU (t : Bool) (kvs : List (U × U)) : OU := if t then .dtp kvs else .dct kvs
def eDict0 (t : Bool) : Ev → Gp → R U := fun _ G => .ok (.ref G.length) (G ++ [dOU t []])
def dAt (t : Bool) (o : Option OU) : Option (List (U × U)) := match o with
  | some (.dct kvs) => if t then none else some kvs
  | some (.dtp kvs) => if t then some kvs else none
  | _ => none
def dctAt (t : Bool) (x : U) (G : Gp) : Option (List (U × U)) := match x with
  | .ref l => dAt t G[l]?
  | _ => none
def isKy (t : Bool) (u : U) : Bool := if t then isKT u else isK u
def gInD (t neg : Bool) (y x : U) (G : Gp) : R U := match dctAt t x G with
  | some kvs => if isKy t y = true then .ok (.bl (if neg then !(dGet kvs y).isSome else (dGet kvs y).isSome)) G else .bad
  | none => .bad
def gIdxD (t : Bool) (x y : U) (G : Gp) : R U := match dctAt t x G with
  | some kvs => if isKy t y = true then match dGet kvs y with
    | some v => .ok v G
    | none => .bad
    else .bad
  | none => .bad
def bLenD (us : List U) (G : Gp) : R U := match us with
  | [x] => match dctAt false x G with
    | some kvs => .ok (.int kvs.length) G
    | none => .bad
  | _ => .bad
def setD (t : Bool) (o i v : U) (G : Gp) : R Unit := match o with
  | .ref l => match dAt t G[l]? with
    | some kvs => if isKy t i = true ∧ kvs.length < 16777216 then .ok () (G.set l (dOU t (dPut kvs i v))) else .bad
    | _ => .bad
  | _ => .bad
def gSubD (t : Bool) (fo fi : Ev → Gp → R U) : U → Ev → Gp → R Ev := fun v env G => (fo env G).bindN fun o G1 => (fi env G1).bindN fun i G2 => (setD t o i v G2).bindN fun _ G3 => .ok env G3
/-- d.pop(k), k there -/
def popD (o i : U) (G : Gp) : R U := match o with
  | .ref l => match G[l]? with
    | some (.dct kvs) => if isK i = true then match dGet kvs i with
      | some v => .ok v (G.set l (.dct (dDrop kvs i)))
      | none => .bad
      else .bad
    | _ => .bad
  | _ => .bad
def isDct (x : U) (G : Gp) : Bool := (dctAt false x G).isSome
def ePopD (fo fi : Ev → Gp → R U) : Ev → Gp → R U := fun env G => (fo env G).bind fun o G1 => if isDct o G1 = true then (fi env G1).bind fun i G2 => popD o i G2 else .bad
/-! facts for the plain side -/
theorem dAt_ok {t : Bool} {kvs : List (U × U)} {o : Option OU} (h : o = some (dOU t kvs)) : dAt t o = some kvs := by subst h; cases t <;> rfl
theorem dctAt_ref {t : Bool} {l : Nat} {kvs : List (U × U)} {G : Gp} (h : G[l]? = some (dOU t kvs)) : dctAt t (.ref l) G = some kvs := dAt_ok h
theorem gInD_ref {t neg : Bool} {l : Nat} {kvs : List (U × U)} {y : U} {G : Gp} (h : G[l]? = some (dOU t kvs)) (hk : isKy t y = true) : gInD t neg y (.ref l) G = .ok (.bl (if neg then !(dGet kvs y).isSome else (dGet kvs y).isSome)) G := by
  unfold gInD
  simp only [dctAt_ref h, hk, if_true]
theorem gIdxD_ref {t : Bool} {l : Nat} {kvs : List (U × U)} {y v : U} {G : Gp} (h : G[l]? = some (dOU t kvs)) (hk : isKy t y = true) (hv : dGet kvs y = some v) : gIdxD t (.ref l) y G = .ok v G := by
  unfold gIdxD
  simp only [dctAt_ref h, hk, if_true, hv]
theorem bLenD_ref {l : Nat} {kvs : List (U × U)} {G : Gp} (h : G[l]? = some (.dct kvs)) : bLenD [.ref l] G = .ok (.int kvs.length) G := by
  unfold bLenD
  simp only [dctAt_ref (t := false) h]
theorem setD_ref {t : Bool} {l : Nat} {kvs : List (U × U)} {i v : U} {G : Gp} (h : G[l]? = some (dOU t kvs)) (hk : isKy t i = true) (hl : kvs.length < 16777216) : setD t (.ref l) i v G = .ok () (G.set l (dOU t (dPut kvs i v))) := by
  unfold setD
  simp only [dAt_ok h, if_pos (And.intro hk hl)]
theorem popD_ref {l : Nat} {kvs : List (U × U)} {i v : U} {G : Gp} (h : G[l]? = some (.dct kvs)) (hk : isK i = true) (hv : dGet kvs i = some v) : popD (.ref l) i G = .ok v (G.set l (.dct (dDrop kvs i))) := by
  unfold popD
  simp only [h, hk, if_true, hv]
theorem isDct_ref {l : Nat} {kvs : List (U × U)} {G : Gp} (h : G[l]? = some (.dct kvs)) : isDct (.ref l) G = true := by
  unfold isDct
  rw [dctAt_ref (t := false) h]
  rfl
/-! relation -/
theorem isK_uk {u : U} (h : isK u = true) : ∃ k, uk u = some k := by
  cases u with
  | int i => exact ⟨.inl i, rfl⟩
  | str x => exact ⟨.inr x, rfl⟩
  | _ => exact nomatch h
theorem isK_uks : ∀ {us : List U}, us.all isK = true → ∃ ks, uks us = some ks
  | [], _ => ⟨[], rfl⟩
  | u :: us, h => by
    rw [List.all_cons] at h
    obtain ⟨h1, h2⟩ := Bool.and_eq_true_iff.mp h
    obtain ⟨k, hk⟩ := isK_uk h1
    obtain ⟨ks, hks⟩ := isK_uks h2
    exact ⟨k :: ks, by unfold uks; rw [hk, hks]⟩
theorem isKT_utk {u : U} (h : isKT u = true) : ∃ k, utk u = some k := by
  cases u with
  | tup xs => exact isK_uks h
  | _ => exact nomatch h
theorem keyEq1_uk {a b : U} {j k : Key} (ha : uk a = some j) (hb : uk b = some k) : keyEq1 a b = decide (j = k) := by
  cases a <;> cases b <;> simp only [uk, Option.some.injEq, reduceCtorEq] at ha hb <;> subst ha hb <;> simp [keyEq1]
theorem keyEq_uk {a b : U} {j k : Key} (ha : uk a = some j) (hb : uk b = some k) : keyEq a b = decide (j = k) := by
  rw [← keyEq1_uk ha hb]
  cases a <;> first | rfl | exact nomatch ha
theorem uks_cons {x : U} {xs : List U} {js : List Key} (h : uks (x :: xs) = some js) : ∃ k ks, uk x = some k ∧ uks xs = some ks ∧ js = k :: ks := by
  unfold uks at h
  cases q : uk x with
  | none => rw [q] at h; exact nomatch h
  | some k =>
    cases q2 : uks xs with
    | none => rw [q, q2] at h; exact nomatch h
    | some ks => rw [q, q2] at h; cases h; exact ⟨k, ks, rfl, rfl, rfl⟩
theorem keysEq_uks : ∀ {a b : List U} {j k : List Key}, uks a = some j → uks b = some k → keysEq a b = decide (j = k)
  | [], [], _, _, ha, hb => by cases ha; cases hb; rfl
  | [], y :: ys, _, _, ha, hb => by
    obtain ⟨k, ks, _, _, rfl⟩ := uks_cons hb
    cases ha
    rfl
  | x :: xs, [], _, _, ha, hb => by
    obtain ⟨k, ks, _, _, rfl⟩ := uks_cons ha
    cases hb
    rfl
  | x :: xs, y :: ys, _, _, ha, hb => by
    obtain ⟨j, js, h1, h2, rfl⟩ := uks_cons ha
    obtain ⟨k, ks, h3, h4, rfl⟩ := uks_cons hb
    show (keyEq1 x y && keysEq xs ys) = _
    rw [keyEq1_uk h1 h3, keysEq_uks h2 h4]
    simp only [List.cons.injEq, Bool.decide_and]
theorem keyEq_utk {a b : U} {j k : List Key} (ha : utk a = some j) (hb : utk b = some k) : keyEq a b = decide (j = k) := by
  cases a with
  | tup xs =>
    cases b with
    | tup ys => exact keysEq_uks ha hb
    | _ => exact nomatch hb
  | _ => exact nomatch ha
/-- equal keys are told by keyEq -/
def KF {κ : Type} [DecidableEq κ] (f : U → Option κ) : Prop := ∀ {a b : U} {j k : κ}, f a = some j → f b = some k → keyEq a b = decide (j = k)
section
variable {K : KZ} {ρ : List Addr} {H : Hp}
theorem uk_kV {u : U} {v : V} {k : Key} (r : RU K ρ H u v) (h : uk u = some k) : v = kV k := by
  cases r <;> simp only [uk, Option.some.injEq, reduceCtorEq] at h <;> subst h <;> rfl
theorem uks_kV : ∀ {us : List U} {vs : List V} {ks : List Key}, RUs K ρ H us vs → uks us = some ks → vs = ks.map kV
  | _, _, _, .nil, h => by cases h; rfl
  | _, _, _, .cons r t, h => by
    obtain ⟨k, ks, h1, h2, rfl⟩ := uks_cons h
    rw [uk_kV r h1, uks_kV t h2]
    rfl
theorem utk_tup {u : U} {v : V} {k : List Key} (r : RU K ρ H u v) (h : utk u = some k) : ∃ b, v = .ref b ∧ H b = some (.tup (k.map kV)) := by
  cases r with
  | tup ht hr => exact ⟨_, rfl, by rw [← uks_kV hr h]; exact ht⟩
  | _ => exact nomatch h
section
variable {κ : Type} [DecidableEq κ] {f : U → Option κ}
theorem RKs.any (F : KF f) {u : U} {k : κ} (hu : f u = some k) : ∀ {kvs : List (U × U)} {vk : List (κ × V)}, RKs f K ρ H kvs vk → (kvs.any fun p => keyEq p.1 u) = vk.any fun p => decide (p.1 = k)
  | _, _, .nil => rfl
  | _, _, .cons hk r t => by rw [List.any_cons, List.any_cons, RKs.any F hu t, F hk hu]
theorem RKs.len : ∀ {kvs : List (U × U)} {vk : List (κ × V)}, RKs f K ρ H kvs vk → kvs.length = vk.length
  | _, _, .nil => rfl
  | _, _, .cons hk r t => by rw [List.length_cons, List.length_cons, RKs.len t]
theorem RKs.get (F : KF f) {u : U} {k : κ} (hu : f u = some k) : ∀ {kvs : List (U × U)} {vk : List (κ × V)}, RKs f K ρ H kvs vk → (dGet kvs u = none ∧ valV vk k = none) ∨ ∃ x v, dGet kvs u = some x ∧ valV vk k = some v ∧ RU K ρ H x v
  | _, _, .nil => .inl ⟨rfl, rfl⟩
  | _, _, .cons (x := x) (k := j) hk r t => by
    have e := F hk hu
    by_cases c : j = k
    · have e : keyEq x u = true := by rw [e]; exact decide_eq_true c
      refine .inr ⟨_, _, ?_, ?_, r⟩
      · unfold dGet; rw [List.find?_cons, e]; rfl
      · exact valV_pos c
    · have e : keyEq x u = false := by rw [e]; exact decide_eq_false c
      rcases RKs.get F hu t with ⟨h1, h2⟩ | ⟨y, v, h1, h2, h3⟩
      · refine .inl ⟨?_, ?_⟩
        · unfold dGet at h1 ⊢; rw [List.find?_cons, e]; exact h1
        · rw [valV_neg c]; exact h2
      · refine .inr ⟨y, v, ?_, ?_, h3⟩
        · unfold dGet at h1 ⊢; rw [List.find?_cons, e]; exact h1
        · rw [valV_neg c]; exact h2
theorem RKs.snoc {u x : U} {k : κ} {v : V} (hu : f u = some k) (r : RU K ρ H x v) : ∀ {kvs : List (U × U)} {vk : List (κ × V)}, RKs f K ρ H kvs vk → RKs f K ρ H (kvs ++ [(u, x)]) (vk ++ [(k, v)])
  | _, _, .nil => .cons hu r .nil
  | _, _, .cons hk r' t => .cons hk r' (RKs.snoc hu r t)
theorem RKs.repl (F : KF f) {u x : U} {k : κ} {v : V} (hu : f u = some k) (r : RU K ρ H x v) : ∀ {kvs : List (U × U)} {vk : List (κ × V)}, RKs f K ρ H kvs vk →
    RKs f K ρ H (kvs.map fun p => if keyEq p.1 u = true then (p.1, x) else p) (vk.map fun kv => if kv.1 = k then (kv.1, v) else kv)
  | _, _, .nil => .nil
  | _, _, .cons (x := y) (k := j) hk r' t => by
    have e := F hk hu
    by_cases c : j = k
    · have e : keyEq y u = true := by rw [e]; exact decide_eq_true c
      rw [List.map_cons, List.map_cons, if_pos e, if_pos c]
      exact .cons hk r (RKs.repl F hu r t)
    · have e : ¬ keyEq y u = true := by rw [e]; simpa using c
      rw [List.map_cons, List.map_cons, if_neg e, if_neg c]
      exact .cons hk r' (RKs.repl F hu r t)
theorem RKs.put (F : KF f) {u x : U} {k : κ} {v : V} (hu : f u = some k) (r : RU K ρ H x v) {kvs : List (U × U)} {vk : List (κ × V)} (h : RKs f K ρ H kvs vk) : RKs f K ρ H (dPut kvs u x) (putK vk k v) := by
  unfold dPut putK
  rw [h.any F hu]
  split
  · exact h.repl F hu r
  · exact h.snoc hu r
theorem RKs.drop (F : KF f) {u : U} {k : κ} (hu : f u = some k) : ∀ {kvs : List (U × U)} {vk : List (κ × V)}, RKs f K ρ H kvs vk → RKs f K ρ H (dDrop kvs u) (dropK vk k)
  | _, _, .nil => .nil
  | _, _, .cons (x := y) (k := j) hk r' t => by
    have ih := RKs.drop F hu t
    have e := F hk hu
    unfold dDrop dropK at ih ⊢
    by_cases c : j = k
    · rw [List.filter_cons_of_neg (by rw [e]; simpa using c), List.filter_cons_of_neg (by simpa using c)]
      exact ih
    · rw [List.filter_cons_of_pos (by rw [e]; simpa using c), List.filter_cons_of_pos (by simpa using c)]
      exact .cons hk r' ih
end
theorem kfK : KF uk := fun ha hb => keyEq_uk ha hb
theorem kfT : KF utk := fun ha hb => keyEq_utk ha hb
variable {G : Gp}
theorem Sim.dct (S : Sim K ρ G H) {l : Nat} {a : Addr} {kvs : List (U × U)} (ha : ρ[l]? = some a) (hl : G[l]? = some (.dct kvs)) : ∃ vk, H a = some (.dK vk) ∧ RKs uk K ρ H kvs vk := by
  obtain ⟨ho, e, r⟩ := S.ob l _ a hl ha
  cases ho <;> first | exact r.elim | exact ⟨_, e, r⟩
theorem Sim.dtp (S : Sim K ρ G H) {l : Nat} {a : Addr} {kvs : List (U × U)} (ha : ρ[l]? = some a) (hl : G[l]? = some (.dtp kvs)) : ∃ vk, H a = some (.dT vk) ∧ RKs utk K ρ H kvs vk := by
  obtain ⟨ho, e, r⟩ := S.ob l _ a hl ha
  cases ho <;> first | exact r.elim | exact ⟨_, e, r⟩
theorem Sim.setDct (S : Sim K ρ G H) {l : Nat} {a : Addr} {ks : List (U × U)} {vk ws : List (Key × V)} (ha : ρ[l]? = some a) (e : H a = some (.dK vk)) (r : RKs uk K ρ H ks ws) : Sim K ρ (G.set l (.dct ks)) (upd H a (.dK ws)) ∧ Stb K H (upd H a (.dK ws)) := by
  have st : Stb K H (upd H a (.dK ws)) := stb_write e (fun _ z => nomatch z) (fun _ _ z => nomatch z) fun _ z => nomatch z
  exact ⟨S.write ha e (fun _ z => nomatch z) (fun _ _ z => nomatch z) (fun _ z => nomatch z) (show RKs uk K ρ _ ks ws from r.mono pre_refl st), st⟩
theorem Sim.setDtp (S : Sim K ρ G H) {l : Nat} {a : Addr} {ks : List (U × U)} {vk ws : List (List Key × V)} (ha : ρ[l]? = some a) (e : H a = some (.dT vk)) (r : RKs utk K ρ H ks ws) : Sim K ρ (G.set l (.dtp ks)) (upd H a (.dT ws)) ∧ Stb K H (upd H a (.dT ws)) := by
  have st : Stb K H (upd H a (.dT ws)) := stb_write e (fun _ z => nomatch z) (fun _ _ z => nomatch z) fun _ z => nomatch z
  exact ⟨S.write ha e (fun _ z => nomatch z) (fun _ _ z => nomatch z) (fun _ z => nomatch z) (show RKs utk K ρ _ ks ws from r.mono pre_refl st), st⟩
theorem dAt_is {t : Bool} {o : Option OU} {kvs : List (U × U)} (h : dAt t o = some kvs) : o = some (dOU t kvs) := by
  unfold dAt at h
  split at h
  · cases t
    · cases h; rfl
    · exact nomatch h
  · cases t
    · exact nomatch h
    · cases h; rfl
  · exact nomatch h
theorem dctAt_ok {t : Bool} {x : U} {v : V} {kvs : List (U × U)} (r : RU K ρ H x v) (h : dctAt t x G = some kvs) : ∃ l a, x = .ref l ∧ v = .ref a ∧ ρ[l]? = some a ∧ G[l]? = some (dOU t kvs) := by
  cases r with
  | @ref l a ha => exact ⟨l, a, rfl, rfl, ha, dAt_is h⟩
  | _ => exact nomatch h
/-- what the dict holds at a key -/
theorem dget_ok {t : Bool} {y : U} {vy : V} {l : Nat} {a : Addr} {kvs : List (U × U)} (S : Sim K ρ G H) (ry : RU K ρ H y vy) (hk : isKy t y = true) (ha : ρ[l]? = some a) (hl : G[l]? = some (dOU t kvs)) :
    (dGet kvs y = none ∧ DGet H a vy none) ∨ ∃ x v, dGet kvs y = some x ∧ DGet H a vy (some v) ∧ RU K ρ H x v := by
  cases t with
  | false =>
    obtain ⟨k, hk⟩ := isK_uk hk
    obtain ⟨vk, e, r⟩ := S.dct ha hl
    have ey := uk_kV ry hk
    subst ey
    have g := DGet.k (k := k) e
    rcases r.get kfK hk with ⟨h1, h2⟩ | ⟨x, v, h1, h2, h3⟩
    · rw [h2] at g; exact .inl ⟨h1, g⟩
    · rw [h2] at g; exact .inr ⟨x, v, h1, g, h3⟩
  | true =>
    obtain ⟨k, hk⟩ := isKT_utk hk
    obtain ⟨vk, e, r⟩ := S.dtp ha hl
    obtain ⟨b, rfl, hb⟩ := utk_tup ry hk
    have g := DGet.t e hb
    rcases r.get kfT hk with ⟨h1, h2⟩ | ⟨x, v, h1, h2, h3⟩
    · rw [h2] at g; exact .inl ⟨h1, g⟩
    · rw [h2] at g; exact .inr ⟨x, v, h1, g, h3⟩
end
/-! rules -/
def rInD (neg : Bool) : R2 := fun y x H Q => ∃ a o, x = .ref a ∧ DGet H a y o ∧ Q (.bl (if neg then !o.isSome else o.isSome)) H
theorem o2InD {K : KZ} {t neg : Bool} : Op2 K (rInD neg) (gInD t neg) := by
  intro ρ G H y x vy vx Q E S ry rx h
  unfold gInD at h
  cases q : dctAt t x G with
  | none => simp only [q] at h; exact h.elim
  | some kvs =>
    simp only [q] at h
    by_cases hk : isKy t y = true
    · rw [if_pos hk] at h
      obtain ⟨l, a, rfl, rfl, ha, hl⟩ := dctAt_ok rx q
      rcases dget_ok S ry hk ha hl with ⟨h1, h2⟩ | ⟨_, v, h1, h2, _⟩
      · rw [h1] at h
        exact ⟨a, _, rfl, h2, h.end_ S (.bl _)⟩
      · rw [h1] at h
        exact ⟨a, _, rfl, h2, h.end_ S (.bl _)⟩
    · rw [if_neg hk] at h; exact h.elim
theorem op_inD {X : Cx} (hu : X.A.units + 1 < cLine) : OpR X (compareOp .In) (rInD false) := by
  intro pins s σ H y x vy vx Q I ry rx h
  obtain ⟨a, o, rfl, g, q⟩ := h
  obtain rfl : vx = Value.ref a := rx
  exact d_in hu I g ry fun s2 I2 => ⟨.bl o.isSome, H, I2, rfl, q⟩
theorem op_ninD {X : Cx} (hu : X.A.units + 1 < cLine) : OpR X (compareOp .NotIn) (rInD true) := by
  intro pins s σ H y x vy vx Q I ry rx h
  obtain ⟨a, o, rfl, g, q⟩ := h
  obtain rfl : vx = Value.ref a := rx
  exact d_notIn hu I g ry fun s2 I2 => ⟨.bl (!o.isSome), H, I2, rfl, q⟩
def rLenD : List V → Hp → VK → Prop := fun vs H Q => ∃ a vk, vs = [.ref a] ∧ H a = some (.dK vk) ∧ Q (.int vk.length) H
theorem oLenD {K : KZ} : OpN K rLenD bLenD := by
  intro ρ G H us vs Q E S r h
  unfold bLenD at h
  split at h
  · rename_i x
    obtain ⟨v, rfl, rv⟩ := r.one
    cases q : dctAt false x G with
    | none => simp only [q] at h; exact h.elim
    | some kvs =>
      simp only [q] at h
      obtain ⟨l, a, rfl, rfl, ha, hl⟩ := dctAt_ok rv q
      obtain ⟨vk, e, r⟩ := S.dct ha hl
      rw [r.len] at h
      exact ⟨a, vk, rfl, e, h.end_ S (.int _)⟩
  · exact h.elim
theorem call_lenD {X : Cx} : CallR X (.builtin "len") rLenD := by
  intro pins s σ H vs us Q I r h
  obtain ⟨a, vk, rfl, e, q⟩ := h
  obtain ⟨u, rfl, ru⟩ := Vals.one r
  obtain rfl : u = Value.ref a := ru
  exact d_len I (.inl e) fun t s2 I2 => ⟨.int vk.length, H, I2, ⟨t, rfl⟩, q⟩
def rSetD : V → V → V → Hp → (Hp → Prop) → Prop := fun o i v H Q => ∃ a H', o = .ref a ∧ DPut H a i v H' ∧ Q H'
theorem set_dict {X : Cx} (hu : X.A.units + 1 < cLine) : PSet X rSetD := by
  intro pins s σ H o i v ov iv vv Q I ro ri rv h
  obtain ⟨a, H', rfl, g, q⟩ := h
  obtain rfl : ov = Value.ref a := ro
  exact d_setItem hu I g ri rv fun s2 I2 => ⟨_, I2, q⟩
theorem setD_ok {K : KZ} {t : Bool} {ρ : List Addr} {G : Gp} {H : Hp} {o i v : U} {ov iv vv : V} (S : Sim K ρ G H) (ro : RU K ρ H o ov) (ri : RU K ρ H i iv) (rv : RU K ρ H v vv) {Q : Hp → Prop} {G' : Gp} (h : setD t o i v G = .ok () G')
    (q : ∀ H', Stb K H H' → Sim K ρ G' H' → Q H') : rSetD ov iv vv H Q := by
  unfold setD at h
  cases ro with
  | @ref l a ha =>
    simp only at h
    cases e1 : dAt t G[l]? with
    | none => rw [e1] at h; exact nomatch h
    | some kvs =>
      rw [e1] at h
      simp only at h
      by_cases c : isKy t i = true ∧ kvs.length < 16777216
      · rw [if_pos c] at h
        cases h
        have e1 := dAt_is e1
        cases t with
        | false =>
          obtain ⟨k, hk⟩ := isK_uk c.1
          obtain ⟨vk, e, r⟩ := S.dct ha e1
          obtain ⟨S', st⟩ := S.setDct ha e (r.put kfK hk rv)
          have ei := uk_kV ri hk
          subst ei
          exact ⟨a, _, rfl, DPut.k e (by rw [← r.len, line_eq]; exact c.2), q _ st S'⟩
        | true =>
          obtain ⟨k, hk⟩ := isKT_utk c.1
          obtain ⟨vk, e, r⟩ := S.dtp ha e1
          obtain ⟨S', st⟩ := S.setDtp ha e (r.put kfT hk rv)
          obtain ⟨b, rfl, hb⟩ := utk_tup ri hk
          exact ⟨a, _, rfl, DPut.t e hb (by rw [← r.len, line_eq]; exact c.2), q _ st S'⟩
      · rw [if_neg c] at h; exact nomatch h
  | _ => exact nomatch h
theorem nxSubD {t : Bool} {fo fi : Ev → Gp → R U} : NoX (gSubD t fo fi) := fun u env G c fs G' h => by
  obtain ⟨a, G1, _, h⟩ := bindN_nx h
  obtain ⟨b, G2, _, h⟩ := bindN_nx h
  obtain ⟨d, G3, _, h⟩ := bindN_nx h
  exact nomatch h
section
variable {X : Cx} {Z : ZZ X.K} {W : WX} {a b o i e : Expr} {fa fb fo fi : Ev → Gp → R U} {p pos apos cpos : Pos}
theorem fdnew : FE X Z W (.Dict [] [] pos) (eDict0 false) := PEimp pe_dnewK fun σ H Q ⟨ρ, G, env, S, e, h⟩ => fun p hp =>
  h (.ref p) (ρ ++ [p]) (upd H p (.dK [])) ⟨[p], rfl⟩ (stb_new hp) (S.new hp (show RKs uk _ _ _ [] [] from .nil)) (.ref (by rw [List.getElem?_append_right (by rw [S.len]; exact Nat.le_refl _), S.len]; simp))
theorem fdnewT : FE X Z W (.Dict [] [] pos) (eDict0 true) := PEimp pe_dnewT fun σ H Q ⟨ρ, G, env, S, e, h⟩ => fun p hp =>
  h (.ref p) (ρ ++ [p]) (upd H p (.dT [])) ⟨[p], rfl⟩ (stb_new hp) (S.new hp (show RKs utk _ _ _ [] [] from .nil)) (.ref (by rw [List.getElem?_append_right (by rw [S.len]; exact Nat.le_refl _), S.len]; simp))
theorem finD (t : Bool) (hu : X.A.units + 1 < cLine) (ha : FE X Z W a fa) (hb : FE X Z W b fb) (hm : behindInMarks .In b = false := by rfl) : FE X Z W (.Compare a [.In] [b] pos) (eBin (gInD t false) fa fb) := fcmp o2InD (op_inD hu) ha hb hm
theorem fninD (t : Bool) (hu : X.A.units + 1 < cLine) (ha : FE X Z W a fa) (hb : FE X Z W b fb) (hm : behindInMarks .NotIn b = false := by rfl) : FE X Z W (.Compare a [.NotIn] [b] pos) (eBin (gInD t true) fa fb) := fcmp o2InD (op_ninD hu) ha hb hm
theorem tinD (t : Bool) (hu : X.A.units + 1 < cLine) (ha : FE X Z W a fa) (hb : FE X Z W b fb) (hm : behindInMarks .In b = false := by rfl) : FT X Z W (.Compare a [.In] [b] pos) (bVal (eBin (gInD t false) fa fb)) := ft_cmp o2InD (op_inD hu) ha hb hm
theorem tninD (t : Bool) (hu : X.A.units + 1 < cLine) (ha : FE X Z W a fa) (hb : FE X Z W b fb) (hm : behindInMarks .NotIn b = false := by rfl) : FT X Z W (.Compare a [.NotIn] [b] pos) (bVal (eBin (gInD t true) fa fb)) := ft_cmp o2InD (op_ninD hu) ha hb hm
theorem flenD {fs : Ev → Gp → R (List U)} (hm : X.mg "len" = none) (ha : FA X Z W [e] fs) (hg : Gl X "len" := by rfl) (he : starEach [e] X.env = (false, eval e X.env) :: starEach [] X.env := by rfl) (hpl : (backTo pos (starEach [] X.env)).any (·.1) = false := by rfl) : FE X Z W (.Call (.Name "len" p) [e] [] pos) (eCall bLenD fs) :=
  fcallB oLenD call_lenD hg hm (by decide +kernel) ha (by decide) (by decide) he hpl
theorem fidxD (t : Bool) (hu : X.A.units + 1 < cLine) (ho : FE X Z W o fo) (hi : FE X Z W i fi) (hs : NoSl i := by intro _ _; rfl) : FE X Z W (.Subscript o i pos) (eBin (gIdxD t) fo fi) := by
  refine PEimp (pe_dget hu ho hi hs) fun σ H Q ⟨ρ, G, env, S, e, h⟩ => ?_
  refine tG_mono (step S e h) fun v H1 ⟨ρ1, G1, x, p1, s1, S1, e1, r1, h1⟩ => ?_
  refine tG_mono (step S1 e1 h1) fun w H2 ⟨ρ2, G2, y, p2, s2, S2, e2, r2, h2⟩ => ?_
  unfold gIdxD at h2
  cases q : dctAt t x G2 with
  | none => simp only [q] at h2; exact h2.elim
  | some kvs =>
    simp only [q] at h2
    by_cases hk : isKy t y = true
    · rw [if_pos hk] at h2
      obtain ⟨l, a, rfl, rfl, ha, hl⟩ := dctAt_ok (r1.mono p2 s2) q
      rcases dget_ok S2 r2 hk ha hl with ⟨h3, h4⟩ | ⟨z, v, h3, h4, h5⟩
      · rw [h3] at h2; exact h2.elim
      · rw [h3] at h2
        exact ⟨a, v, rfl, h4, h2.end_ S2 h5⟩
    · rw [if_neg hk] at h2; exact h2.elim
theorem fgsubD (t : Bool) (hu : X.A.units + 1 < cLine) (ho : FE X Z W o fo) (hi : FE X Z W i fi) (ha : ∀ v, assign (.Subscript o i pos) X.env v = (do
      let ov ← holding [v] (eval o X.env)
      let iv ← holding [v, ov] (eval i X.env)
      standAt pos
      holding [v, ov, iv] (setItem ov iv v)
      release [v, ov, iv] []) := by intro _; rfl) : FG X Z (.Subscript o i pos) (gSubD t fo fi) := by
  refine PGimp (pg_sub ho hi (set_dict hu) ha) fun v σ H Q ⟨ρ, G, env, u, S, e, r, h⟩ => ?_
  cases q : gSubD t fo fi u env G with
  | bad => rw [q] at h; exact h.elim
  | exc c fs G' => exact absurd q (nxSubD _ _ _ _ _ _)
  | ok env' G' =>
    rw [q] at h
    obtain ⟨a, G1, q1, q⟩ := bindN_ok q
    obtain ⟨b, G2, q2, q⟩ := bindN_ok q
    obtain ⟨d, G3, q3, q⟩ := bindN_ok q
    cases q
    refine tF_ok S e q1 fun ov ρ1 H1 p1 s1 S1 r1 => tF_ok S1 (e.mono p1 s1) q2 fun iv ρ2 H2 p2 s2 S2 r2 => ?_
    exact setD_ok S2 (r1.mono p2 s2) r2 ((r.mono p1 s1).mono p2 s2) q3 fun H3 s3 S3 => h σ ρ2 H3 (p1.trans p2) ((s1.trans s2).trans s3) S3 (((e.mono p1 s1).mono p2 s2).mono pre_refl s3)
theorem fdpop (ho : FE X Z W o fo) (hi : FE X Z W i fi)
    (base : attributeBase o "pop" X.env (eval o X.env) = eval o X.env := by rfl)
    (few : ((backTo cpos (starEach [i] X.env)).all (fun x => !x.1) && (backToKw cpos (keywordEach [] X.env)).all (fun x => x.1.isSome)
    && decide (([i] : List Expr).length + ([] : List Keyword).length + (if ([] : List Keyword).isEmpty then 0 else 1) < 30)) = true := by rfl)
    (line : (apos.endLine == cpos.line) = true := by rfl)
    (trees : backTo cpos (starEach [i] X.env) = [(false, eval i X.env)] := by rfl) : FE X Z W (.Call (.Attribute o "pop" apos) [i] [] cpos) (ePopD fo fi) := by
  refine PEimp (pe_dpop1 ho hi ⟨base, few, line, trees⟩) fun σ H Q ⟨ρ, G, env, S, e, h⟩ => ?_
  refine tG_mono (step S e h) fun v H1 ⟨ρ1, G1, x, p1, s1, S1, e1, r1, h1⟩ => ?_
  by_cases hd : isDct x G1 = true
  · rw [if_pos hd] at h1
    obtain ⟨kvs, hd⟩ := Option.isSome_iff_exists.mp hd
    obtain ⟨l, a, rfl, rfl, ha, hl⟩ := dctAt_ok r1 hd
    obtain ⟨vk, e2, r2⟩ := S1.dct ha hl
    refine ⟨a, rfl, .inl ⟨vk, .inl e2⟩, ?_⟩
    refine tG_mono (step S1 e1 h1) fun w H2 ⟨ρ2, G2, y, p2, s2, S2, e3, r3, h2⟩ => ?_
    have ha2 := pre_get p2 ha
    unfold popD at h2
    simp only at h2
    cases q : G2[l]? with
    | none => rw [q] at h2; exact h2.elim
    | some ob =>
      rw [q] at h2
      cases ob with
      | dct ks =>
        simp only at h2
        by_cases hk : isK y = true
        · rw [if_pos hk] at h2
          obtain ⟨k, hk⟩ := isK_uk hk
          obtain ⟨vk2, e4, r4⟩ := S2.dct ha2 q
          rcases r4.get kfK hk with ⟨h3, h4⟩ | ⟨z, v, h3, h4, h5⟩
          · rw [h3] at h2; exact h2.elim
          · rw [h3] at h2
            obtain ⟨S', st⟩ := S2.setDct ha2 e4 (r4.drop kfK hk)
            exact ⟨vk2, k, v, e4, uk_kV r3 hk, h4, h2 v ρ2 _ pre_refl st S' (h5.mono pre_refl st)⟩
        · rw [if_neg hk] at h2; exact h2.elim
      | _ => exact h2.elim
  · rw [if_neg hd] at h1; exact h1.elim
end
/-! list.reverse, list.extend -/
def mReverse (x : U) (us : List U) (G : Gp) : R U := match x, us with
  | .ref l, [] => match G[l]? with
    | some (.lst xs) => .ok .non (G.set l (.lst xs.reverse))
    | _ => .bad
  | _, _ => .bad
theorem mReverse_ref {l : Nat} {xs : List U} {G : Gp} (h : G[l]? = some (.lst xs)) : mReverse (.ref l) [] G = .ok .non (G.set l (.lst xs.reverse)) := by
  unfold mReverse
  simp only [h]
def mExtend (x : U) (us : List U) (G : Gp) : R U := match x, us with
  | .ref l, [.ref b] => match G[l]?, G[b]? with
    | some (.lst xs), some (.lst ys) => if xs.length + ys.length ≤ 16777216 then .ok .non (G.set l (.lst (xs ++ ys))) else .bad
    | _, _ => .bad
  | _, _ => .bad
theorem mExtend_ref {l b : Nat} {xs ys : List U} {G : Gp} (h : G[l]? = some (.lst xs)) (h2 : G[b]? = some (.lst ys)) (hl : xs.length + ys.length ≤ 16777216) : mExtend (.ref l) [.ref b] G = .ok .non (G.set l (.lst (xs ++ ys))) := by
  unfold mExtend
  simp only [h, h2, if_pos hl]
section
variable {K : KZ}
theorem RUs.rev {ρ : List Addr} {H : Hp} : ∀ {us : List U} {vs : List V}, RUs K ρ H us vs → RUs K ρ H us.reverse vs.reverse
  | _, _, .nil => .nil
  | _, _, .cons h t => by
    rw [List.reverse_cons, List.reverse_cons]
    exact (RUs.rev t).append (.cons h .nil)
theorem oReverse : OpM K rReverse mReverse := by
  intro ρ G H x v us vs Q E S rx rs h
  unfold mReverse at h
  split at h
  · rename_i l
    cases rx with
    | @ref _ a ha =>
      cases rs
      cases q : G[l]? with
      | none => rw [q] at h; exact h.elim
      | some o =>
        rw [q] at h
        cases o with
        | lst xs =>
          obtain ⟨ws, e, r⟩ := S.list ha q
          exact ⟨a, ws, rfl, rfl, e, updEnd (xs := xs) S ha e r.rev .non h⟩
        | _ => exact h.elim
  · exact h.elim
theorem oExtend : OpM K rExtend mExtend := by
  intro ρ G H x v us vs Q E S rx rs h
  unfold mExtend at h
  split at h
  · rename_i l b
    cases rx with
    | @ref _ a ha =>
      obtain ⟨w, rfl, rw'⟩ := rs.one
      cases rw' with
      | @ref _ a2 ha2 =>
        cases q : G[l]? with
        | none => rw [q] at h; exact h.elim
        | some o =>
          cases q2 : G[b]? with
          | none => rw [q, q2] at h; cases o <;> exact h.elim
          | some o2 =>
            rw [q, q2] at h
            cases o with
            | lst xs =>
              cases o2 with
              | lst ys =>
                simp only at h
                obtain ⟨ws, e, r⟩ := S.list ha q
                obtain ⟨zs, e2, r2⟩ := S.list ha2 q2
                by_cases c : xs.length + ys.length ≤ 16777216
                · rw [if_pos c] at h
                  exact ⟨a, a2, ws, zs, rfl, rfl, e, e2, by rw [← r.len, ← r2.len, line_eq]; exact c, updEnd (xs := xs) S ha e (r.append r2) .non h⟩
                · rw [if_neg c] at h; exact h.elim
              | _ => exact h.elim
            | _ => cases o2 <;> exact h.elim
  · exact h.elim
theorem mtReverse {X : Cx} : MtR X "list.reverse" rReverse := mt_reverse
theorem mtExtend {X : Cx} : MtR X "list.extend" rExtend := mt_extend
end
/-! math.comb -/
def bComb (us : List U) (G : Gp) : R U := match us with
  | [.int a, .int b] => if 0 ≤ a ∧ 0 ≤ b ∧ a ≤ 18000 then .ok (.int (PySem.W.mcComb a b)) G else .bad
  | _ => .bad
theorem bComb_ii {a b : Int} {G : Gp} (h1 : 0 ≤ a) (h2 : 0 ≤ b) (h3 : a ≤ 18000) : bComb [.int a, .int b] G = .ok (.int (PySem.W.mcComb a b)) G := if_pos ⟨h1, h2, h3⟩
def rComb : List V → Hp → VK → Prop := fun vs H Q => ∃ a b : Int, vs = [.int a, .int b] ∧ 0 ≤ a ∧ 0 ≤ b ∧ a ≤ 18000 ∧ Q (.int (PySem.W.mcComb a b)) H
theorem oComb {K : KZ} : OpN K rComb bComb := by
  intro ρ G H us vs Q E S r h
  unfold bComb at h
  split at h
  · rename_i a b
    by_cases c : 0 ≤ a ∧ 0 ≤ b ∧ a ≤ 18000
    · rw [if_pos c] at h
      obtain ⟨v, w, rfl, r1, r2⟩ := r.two
      cases r1
      cases r2
      exact ⟨a, b, rfl, c.1, c.2.1, c.2.2, h.end_ S (.int _)⟩
    · rw [if_neg c] at h; exact h.elim
  · exact h.elim
theorem cr_comb {X : Cx} : CallR X (.builtin "math.comb") rComb := by
  intro pins s σ H vs us Q I r h
  obtain ⟨a, b, rfl, h1, h2, h3, q⟩ := h
  obtain ⟨t, u, rfl⟩ := Vals.int2 r
  have e64 : (2 : Int) ^ 64 = 18446744073709551616 := by decide
  exact PySem.W.mc_comb h1 h2 (by rw [e64]; omega) (.inr h3) fun _ => ⟨.int _, H, I.tok _, ⟨_, rfl⟩, q⟩
section
variable {X : Cx} {Z : ZZ X.K} {W : WX} {x : Str} {e : Expr} {es : List Expr} {fs : Ev → Gp → R (List U)} {p pos : Pos}
theorem fcomb (hm : X.mg x = some (.builtin "math.comb")) (ha : FA X Z W (e :: es) fs) (hg : Gl X x := by rfl) (hdb : (x == ("__debug__" : Str)) = false := by decide)
    (he : starEach (e :: es) X.env = (false, eval e X.env) :: starEach es X.env := by rfl) (hpl : (backTo pos (starEach es X.env)).any (·.1) = false := by rfl) : FE X Z W (.Call (.Name x p) (e :: es) [] pos) (eCall bComb fs) :=
  PEimp (pe_callBfun cr_comb hg hm ha hdb he hpl) (tCB_of oComb)
end
/-! a module's tuple of texts -/
def TupW (K : PySem.W.Frag) (a : Addr) (zs : List Str) : Prop := ∃ (o : Obj) (its : Array Value) (n : Nat), K.lookup a = some o ∧ o.cls = .type "tuple" ∧ o.data = .seq its n ∧ its.size ≤ sizeLine ∧ Vals (zs.map V.str) its.toList
def tupWB (K : PySem.W.Frag) (x : Str) (zs : List Str) : Bool := match K.lookup (He.ga K x) with
  | some ⟨.type "tuple", _, .seq its _, _⟩ => decide (its.size ≤ 1000) && decide (its.toList.map (fun v => match v with | .str z _ => some z | _ => none) = zs.map some)
  | _ => false
theorem strs_vals : ∀ (us : List Value) (zs : List Str), us.map (fun v => match v with | .str z _ => some z | _ => none) = zs.map some → Vals (zs.map V.str) us
  | [], [], _ => .nil
  | u :: us, z :: zs, h => by
    rw [List.map_cons, List.map_cons] at h
    obtain ⟨h1, h2⟩ := List.cons.inj h
    refine .cons ?_ (strs_vals us zs h2)
    split at h1
    · cases h1; exact ⟨_, rfl⟩
    · exact nomatch h1
  | [], _ :: _, h => by simp at h
  | _ :: _, [], h => by simp at h
theorem tupWB_ok {K : PySem.W.Frag} {x : Str} {zs : List Str} (h : tupWB K x zs = true) : TupW K (He.ga K x) zs := by
  unfold tupWB at h
  split at h
  · rename_i d its n sl q
    obtain ⟨h1, h2⟩ := Bool.and_eq_true_iff.mp h
    exact ⟨_, its, n, q, rfl, rfl, by rw [line_eq]; have := of_decide_eq_true h1; omega, strs_vals _ _ (of_decide_eq_true h2)⟩
  · exact nomatch h
def bfnB (K : PySem.W.Frag) (x : Str) (id : String) : Bool := He.eqO (PySem.W.nsIn K mainGlobals x) (some (some (.builtin id)))
theorem bfn_ok {K : PySem.W.Frag} {h : Heap} {mg : Str → Option Value} (X : K.In h) (G : h.Ns mainGlobals mg) {x : Str} {id : String} (c : bfnB K x id = true) : mg x = some (.builtin id) := PySem.W.mg_of X G (He.eqO_ok c)
section
variable {X : Cx} {Z : ZZ X.K} {W : WX} {pos : Pos}
theorem fglobT {x : Str} {zs : List Str} (hg : Gl X x) (hm : X.mg x = some (.ref (He.ga X.K x))) (ht : TupW X.K (He.ga X.K x) zs) (hd : (x == ("__debug__" : Str)) = false := by decide) : FE X Z W (.Name x pos) (eC (.wt (zs.map .str))) := by
  refine PEimp (pe_glob (v := .ref (He.ga X.K x)) hg hm rfl hd) (tC_of fun ρ H => .wt ht ?_)
  induction zs with
  | nil => exact .nil
  | cons z r ih => exact .cons (.str z) (by
      clear ih ht
      induction r with
      | nil => exact .nil
      | cons z r ih => exact .cons (.str z) ih)
end
end FL

set_option Elab.async false
set_option linter.all false
set_option maxRecDepth 100000
set_option maxHeartbeats 4000000
set_option autoImplicit false
/-! &, |, <<, >> of ints -/
namespace FL
open PySem PySem.Spec L2
def gBand (x y : U) (G : Gp) : R U := match x, y with
  | .int i, .int j => .ok (.int (Builtin.bitAnd i j)) G
  | _, _ => .bad
def gBor (x y : U) (G : Gp) : R U := match x, y with
  | .int i, .int j => .ok (.int (Builtin.bitOr i j)) G
  | _, _ => .bad
def gShr (x y : U) (G : Gp) : R U := match x, y with
  | .int i, .int j => if 0 ≤ j then .ok (.int (i / 2 ^ j.toNat)) G else .bad
  | _, _ => .bad
def gShl (x y : U) (G : Gp) : R U := match x, y with
  | .int i, .int j => if 0 ≤ j ∧ j ≤ 1000000 ∧ i.natAbs < 2 ^ 64 then .ok (.int (i * 2 ^ j.toNat)) G else .bad
  | _, _ => .bad
@[simp] theorem gBand_ (i j : Int) (G : Gp) : gBand (.int i) (.int j) G = .ok (.int (Builtin.bitAnd i j)) G := id rfl
@[simp] theorem gBor_ (i j : Int) (G : Gp) : gBor (.int i) (.int j) G = .ok (.int (Builtin.bitOr i j)) G := id rfl
theorem gShr_ {i j : Int} {G : Gp} (h : 0 ≤ j) : gShr (.int i) (.int j) G = .ok (.int (i / 2 ^ j.toNat)) G := if_pos h
theorem gShl_ {i j : Int} {G : Gp} (h : 0 ≤ j) (h2 : j ≤ 1000000) (h3 : i.natAbs < 2 ^ 64) : gShl (.int i) (.int j) G = .ok (.int (i * 2 ^ j.toNat)) G := if_pos ⟨h, h2, h3⟩
section
variable {K : KZ}
theorem o2Band : Op2 K (rI0 fun i j => .int (Builtin.bitAnd i j)) gBand := by
  intro ρ G H x y v w Q E S rx ry h
  cases rx with
  | int a =>
    cases ry with
    | int b => exact ⟨a, b, rfl, rfl, h.end_ S (.int _)⟩
    | _ => exact h.elim
  | _ => cases ry <;> exact h.elim
theorem o2Bor : Op2 K (rI0 fun i j => .int (Builtin.bitOr i j)) gBor := by
  intro ρ G H x y v w Q E S rx ry h
  cases rx with
  | int a =>
    cases ry with
    | int b => exact ⟨a, b, rfl, rfl, h.end_ S (.int _)⟩
    | _ => exact h.elim
  | _ => cases ry <;> exact h.elim
theorem o2Shr : Op2 K (rI (fun _ j => 0 ≤ j) fun i j => .int (i / 2 ^ j.toNat)) gShr := by
  intro ρ G H x y v w Q E S rx ry h
  cases rx with
  | int a =>
    cases ry with
    | int b =>
      have h : Post K (RU K) ρ H (if 0 ≤ b then .ok (.int (a / 2 ^ b.toNat)) G else .bad) Q E := h
      by_cases c : 0 ≤ b
      · rw [if_pos c] at h; exact ⟨a, b, rfl, rfl, c, h.end_ S (.int _)⟩
      · rw [if_neg c] at h; exact h.elim
    | _ => exact h.elim
  | _ => cases ry <;> exact h.elim
theorem o2Shl : Op2 K (rI CPow fun i j => .int (i * 2 ^ j.toNat)) gShl := by
  intro ρ G H x y v w Q E S rx ry h
  cases rx with
  | int a =>
    cases ry with
    | int b =>
      have h : Post K (RU K) ρ H (if 0 ≤ b ∧ b ≤ 1000000 ∧ a.natAbs < 2 ^ 64 then .ok (.int (a * 2 ^ b.toNat)) G else .bad) Q E := h
      by_cases c : 0 ≤ b ∧ b ≤ 1000000 ∧ a.natAbs < 2 ^ 64
      · rw [if_pos c] at h; exact ⟨a, b, rfl, rfl, c, h.end_ S (.int _)⟩
      · rw [if_neg c] at h; exact h.elim
    | _ => exact h.elim
  | _ => cases ry <;> exact h.elim
end
section
variable {X : Cx} {Z : ZZ X.K} {W : WX} {a b : Expr} {fa fb : Ev → Gp → R U} {pos : Pos}
theorem fband (ha : FE X Z W a fa) (hb : FE X Z W b fb) : FE X Z W (.BinOp a .BitAnd b pos) (eBin gBand fa fb) := fop o2Band op_and ha hb
theorem fbor (ha : FE X Z W a fa) (hb : FE X Z W b fb) : FE X Z W (.BinOp a .BitOr b pos) (eBin gBor fa fb) := fop o2Bor op_or ha hb
theorem fshr (ha : FE X Z W a fa) (hb : FE X Z W b fb) : FE X Z W (.BinOp a .RShift b pos) (eBin gShr fa fb) := fop o2Shr op_shr ha hb
theorem fshl (ha : FE X Z W a fa) (hb : FE X Z W b fb) : FE X Z W (.BinOp a .LShift b pos) (eBin gShl fa fb) := fop o2Shl op_shl ha hb
end
end FL

set_option Elab.async false
set_option linter.all false
set_option maxRecDepth 100000
set_option maxHeartbeats 8000000
set_option autoImplicit false

namespace K96
open PySem PySem.Spec L2 FL
set_option maxRecDepth 100000
def exT : List (Str × List Str) := [("InvalidNumber", ["InvalidNumber", "DealError"]), ("Undefined", ["Undefined", "DealError"])]
def g__law_box_1 : Ev → Gp → SR := (sExpr (eMeth mAppend (eVar 2) (aCons (eCall bAbs (aCons (eVar 3) aNil)) aNil)))
def g__law_box_2 : Ev → Gp → SR := (sSeq (sAsg (eBin gMod (eCall bInt (aCons (eBin gAdd (eBin gAdd (eBin gAdd (eBin gMul (eVar 1) (eVar 1)) (eCall bAbs (aCons (eVar 3) aNil))) (eBin gMul (eC (.int 7)) (eCall bInt (aCons (eBin gLt (eVar 3) (eC (.int 0))) aNil)))) (eC (.int 11))) aNil)) (eC (.int 2305843009213693951))) (gNm 1)) (sIf (bVal (eBin gGe (eCall bAbs (aCons (eVar 3) aNil)) (eC (.int 1000000000000000000)))) g__law_box_1 sNil))
def g__law_box : Ev → Gp → SR := (sSeq (sAsg (eC (.int 1234567891011)) (gNm 1)) (sSeq (sAsg (eLst aNil) (gNm 2)) (sSeq (sFor (iOf (eSl (eVar 0) pNo (pInt (eC (.int 63)))) kSeq) (gNm 3) g__law_box_2) (sSeq (sExpr (eMeth mReverse (eVar 2) aNil)) (sRet (eLst (aCons (eVar 1) (aCons (eC (.int 0)) (aCons (eVar 2) aNil)))))))))
def F__law_box : List U → Gp → R U := defF 1 4 g__law_box
theorem ar__law_box : Ar 1 F__law_box := ar_defF
theorem run__law_box (x0 : U) (G : Gp) : F__law_box [x0] G = fin (g__law_box [some x0, none, none, none] G) := defF_eq rfl G rfl
def g__law_draw_1 : Ev → Gp → SR := (sSeq (sIf (tOrB (bVal (eBin gGt (eBin gIdx (eVar 0) (eC (.int 1))) (eC (.int 1)))) (bVal (eBin gEq (eCall bLen (aCons (eBin gIdx (eVar 0) (eC (.int 2))) aNil)) (eC (.int 0))))) sBrk sNil) (sAsg (eMeth mPop (eBin gIdx (eVar 0) (eC (.int 2))) aNil) (gSubE (eVar 0) (eC (.int 1)))))
def g__law_draw_2 : Ev → Gp → SR := (sSeq (sAsg (eBin gMod (eCall bInt (aCons (eBin gIdx (eVar 0) (eC (.int 1))) aNil)) (eVar 1)) (gNm 3)) (sSeq (sAsg (eBin gFdiv (eCall bInt (aCons (eBin gIdx (eVar 0) (eC (.int 1))) aNil)) (eVar 1)) (gSubE (eVar 0) (eC (.int 1)))) (sRet (eVar 3))))
def g__law_draw : Ev → Gp → SR := (sSeq (sFor (iOfs (aCons (eC (.int 63)) aNil) kRng1) (gNm 2) g__law_draw_1) (sSeq (sIf (bVal (eBin gGt (eBin gIdx (eVar 0) (eC (.int 1))) (eC (.int 1)))) g__law_draw_2 sNil) (sSeq (sAsg (eBin gMod (eCall bInt (aCons (eBin gAdd (eBin gMul (eBin gIdx (eVar 0) (eC (.int 0))) (eBin gIdx (eVar 0) (eC (.int 0)))) (eC (.int 1442695040888963407))) aNil)) (eC (.int 2305843009213693951))) (gSubE (eVar 0) (eC (.int 0)))) (sSeq (sAsg (eBin gMod (eCall bInt (aCons (eBin gAdd (eBin gMul (eBin gIdx (eVar 0) (eC (.int 0))) (eBin gIdx (eVar 0) (eC (.int 0)))) (eC (.int 3037000493))) aNil)) (eC (.int 2305843009213693951))) (gSubE (eVar 0) (eC (.int 0)))) (sRet (eBin gMod (eCall bInt (aCons (eBin gFdiv (eBin gIdx (eVar 0) (eC (.int 0))) (eC (.int 65536))) aNil)) (eVar 1)))))))
def F__law_draw : List U → Gp → R U := defF 2 4 g__law_draw
theorem ar__law_draw : Ar 2 F__law_draw := ar_defF
theorem run__law_draw (x0 x1 : U) (G : Gp) : F__law_draw [x0, x1] G = fin (g__law_draw [some x0, some x1, none, none] G) := defF_eq rfl G rfl
def g__law_free_1 : Ev → Gp → SR := (sExpr (eMeth mAppend (eVar 6) (aCons (eTup (aCons (eVar 0) (aCons (eVar 1) (aCons (eBin gSub (eVar 2) (eC (.int 1))) aNil)))) aNil)))
def g__law_free_2 : Ev → Gp → SR := (sExpr (eMeth mAppend (eVar 6) (aCons (eTup (aCons (eVar 0) (aCons (eBin gAdd (eVar 1) (eBin gShl (eC (.int 1)) (eVar 0))) (aCons (eVar 2) aNil)))) aNil)))
def g__law_free_3 : Ev → Gp → SR := (sSeq (sExpr (eMeth mAppend (eVar 6) (aCons (eTup (aCons (eVar 7) (aCons (eVar 1) (aCons (eVar 2) aNil)))) aNil))) (sExpr (eMeth mAppend (eVar 6) (aCons (eTup (aCons (eVar 0) (aCons (eBin gSub (eVar 1) (eBin gShl (eC (.int 1)) (eVar 7))) (aCons (eVar 2) aNil)))) aNil))))
def g__law_free : Ev → Gp → SR := (sSeq (sAsg (eComp [7] (iOfs (aCons (eVar 3) aNil) kRng1) (gNm 7) (bVal (eBin gEq (eBin gBand (eBin gShr (eVar 1) (eVar 7)) (eC (.int 1))) (eC (.int 1)))) (eVar 7)) (gNm 5)) (sSeq (sAsg (eLst aNil) (gNm 6)) (sSeq (sIf (tAndB (bVal (eBin gGt (eVar 2) (eC (.int 0)))) (bVal (eBin gEq (eVar 0) (eBin gSub (eVar 2) (eC (.int 1)))))) g__law_free_1 sNil) (sSeq (sIf (tAndB (bVal (eBin (gIn true) (eVar 0) (eVar 5))) (bVal (eBin gLt (eCall bLen (aCons (eVar 5) aNil)) (eVar 4)))) g__law_free_2 sNil) (sSeq (sFor (iOf (eVar 5) kSeq) (gNm 7) g__law_free_3) (sRet (eVar 6)))))))
def F__law_free : List U → Gp → R U := defF 5 8 g__law_free
theorem ar__law_free : Ar 5 F__law_free := ar_defF
theorem run__law_free (x0 x1 x2 x3 x4 : U) (G : Gp) : F__law_free [x0, x1, x2, x3, x4] G = fin (g__law_free [some x0, some x1, some x2, some x3, some x4, none, none, none] G) := defF_eq rfl G rfl
def g__law_searched_1 : Ev → Gp → SR := (sExpr (eMeth mAppend (eVar 5) (aCons (eTup (aCons (eBin gAdd (eBin gIdx (eVar 7) (eC (.int 0))) (eC (.int 1))) (aCons (eBin gIdx (eVar 7) (eC (.int 1))) (aCons (eBin gIdx (eVar 7) (eC (.int 2))) aNil)))) aNil)))
def g__law_searched_2 : Ev → Gp → SR := (sIf (bVal (eBin (gInD true true) (eVar 8) (eVar 3))) (sExpr (eMeth mAppend (eVar 2) (aCons (eVar 8) aNil))) sNil)
def g__law_searched_3 : Ev → Gp → SR := (sSeq (sAsg (eC (.bl true)) (gSubD true (eVar 3) (eVar 7))) (sSeq (sIf (bVal (eBin gEq (eBin gIdx (eVar 7) (eC (.int 2))) (eC (.int 0)))) (sRet (eVar 4)) sNil) (sSeq (sIf (bVal (eBin gLt (eBin gIdx (eVar 7) (eC (.int 0))) (eBin gSub (eVar 0) (eC (.int 1))))) g__law_searched_1 sNil) (sFor (iOf (eCall F__law_free (aCons (eBin gIdx (eVar 7) (eC (.int 0))) (aCons (eBin gIdx (eVar 7) (eC (.int 1))) (aCons (eBin gIdx (eVar 7) (eC (.int 2))) (aCons (eVar 0) (aCons (eVar 1) aNil)))))) kSeq) (gNm 8) g__law_searched_2))))
def g__law_searched_4 : Ev → Gp → SR := (sSeq (sIf (bVal (eBin gEq (eCall bLen (aCons (eVar 2) aNil)) (eC (.int 0)))) sBrk sNil) (sSeq (sAsg (eMeth mPop (eVar 2) aNil) (gNm 7)) (sIf (bVal (eBin (gInD true true) (eVar 7) (eVar 3))) g__law_searched_3 sNil)))
def g__law_searched_5 : Ev → Gp → SR := (sSeq (sAsg (eLst aNil) (gNm 5)) (sSeq (sFor (iOfs (aCons (eC (.int 20000)) aNil) kRng1) (gNm 6) g__law_searched_4) (sSeq (sAsg (eVar 5) (gNm 2)) (sIf (bVal (eBin gEq (eCall bLen (aCons (eVar 2) aNil)) (eC (.int 0)))) (sRet (eC .non)) sNil))))
def g__law_searched : Ev → Gp → SR := (sSeq (sAsg (eLst (aCons (eTup (aCons (eC (.int 0)) (aCons (eC (.int 0)) (aCons (eVar 0) aNil)))) aNil)) (gNm 2)) (sSeq (sAsg (eDict0 true) (gNm 3)) (sSeq (sFor (iOfs (aCons (eC (.int 60)) aNil) kRng1) (gNm 4) g__law_searched_5) (sRet (eC .non)))))
def F__law_searched : List U → Gp → R U := defF 2 9 g__law_searched
theorem ar__law_searched : Ar 2 F__law_searched := ar_defF
theorem run__law_searched (x0 x1 : U) (G : Gp) : F__law_searched [x0, x1] G = fin (g__law_searched [some x0, some x1, none, none, none, none, none, none, none] G) := defF_eq rfl G rfl
def g__law_is_number : Ev → Gp → SR := (sRet (eAnd (eIs tbInt (eVar 0)) (eAnd (eNot (eIs tbBool (eVar 0))) (eBin gGe (eVar 0) (eC (.int 0))))))
def F__law_is_number : List U → Gp → R U := defF 1 1 g__law_is_number
theorem ar__law_is_number : Ar 1 F__law_is_number := ar_defF
theorem run__law_is_number (x0 : U) (G : Gp) : F__law_is_number [x0] G = fin (g__law_is_number [some x0] G) := defF_eq rfl G rfl
def g__law_wrong : Ev → Gp → SR := (sSeq (sIf (tOrB (tNotB (bVal (eCall F__law_is_number (aCons (eVar 0) aNil)))) (tOrB (bVal (eBin gLt (eVar 0) (eC (.int 1)))) (bVal (eBin gGt (eVar 0) (eC (.int 40)))))) (sRet (eLst (aCons (eVar 0) aNil))) sNil) (sSeq (sIf (tOrB (tNotB (bVal (eCall F__law_is_number (aCons (eVar 1) aNil)))) (bVal (eBin gGt (eVar 1) (eC (.int 40))))) (sRet (eLst (aCons (eVar 1) aNil))) sNil) (sRet (eLst aNil))))
def F__law_wrong : List U → Gp → R U := defF 2 2 g__law_wrong
theorem ar__law_wrong : Ar 2 F__law_wrong := ar_defF
theorem run__law_wrong (x0 x1 : U) (G : Gp) : F__law_wrong [x0, x1] G = fin (g__law_wrong [some x0, some x1] G) := defF_eq rfl G rfl
def g__law_refused : Ev → Gp → SR := (sSeq (sAsg (eBin gEq (eIs tbBool (eBin gIdx (eVar 0) (eC (.int 1)))) (eIs tbBool (eBin gIdx (eVar 1) (eC (.int 0))))) (gNm 2)) (sRet (eAnd (eBin gEq (eVar 0) (eLst (aCons (eC (.str ("number" : Str))) (aCons (eBin gIdx (eVar 1) (eC (.int 0))) aNil)))) (eVar 2))))
def F__law_refused : List U → Gp → R U := defF 2 3 g__law_refused
theorem ar__law_refused : Ar 2 F__law_refused := ar_defF
theorem run__law_refused (x0 x1 : U) (G : Gp) : F__law_refused [x0, x1] G = fin (g__law_refused [some x0, some x1, none] G) := defF_eq rfl G rfl
def g_is_integer : Ev → Gp → SR := (sRet (eAnd (eIs tbInt (eVar 0)) (eNot (eIs tbBool (eVar 0)))))
def F_is_integer : List U → Gp → R U := defF 1 1 g_is_integer
theorem ar_is_integer : Ar 1 F_is_integer := ar_defF
theorem run_is_integer (x0 : U) (G : Gp) : F_is_integer [x0] G = fin (g_is_integer [some x0] G) := defF_eq rfl G rfl
def g_is_from_to : Ev → Gp → SR := (sRet (eAnd (eCall F_is_integer (aCons (eVar 0) aNil)) (eChain gLe gLe (eVar 1) (eVar 0) (eVar 2))))
def F_is_from_to : List U → Gp → R U := defF 3 3 g_is_from_to
theorem ar_is_from_to : Ar 3 F_is_from_to := ar_defF
theorem run_is_from_to (x0 x1 x2 : U) (G : Gp) : F_is_from_to [x0, x1, x2] G = fin (g_is_from_to [some x0, some x1, some x2] G) := defF_eq rfl G rfl
def g_check_number : Ev → Gp → SR := (sIf (tNotB (bVal (eCall F_is_from_to (aCons (eVar 0) (aCons (eVar 1) (aCons (eVar 2) aNil)))))) (sRaise "InvalidNumber" ["number"] (aCons (eVar 0) aNil)) sNil)
def F_check_number : List U → Gp → R U := defF 3 3 g_check_number
theorem ar_check_number : Ar 3 F_check_number := ar_defF
theorem run_check_number (x0 x1 x2 : U) (G : Gp) : F_check_number [x0, x1, x2] G = fin (g_check_number [some x0, some x1, some x2] G) := defF_eq rfl G rfl
def g_check_chain : Ev → Gp → SR := (sSeq (sExpr (eCall F_check_number (aCons (eVar 0) (aCons (eC (.int 1)) (aCons (eC (.int 40)) aNil))))) (sExpr (eCall F_check_number (aCons (eVar 1) (aCons (eC (.int 0)) (aCons (eC (.int 40)) aNil))))))
def F_check_chain : List U → Gp → R U := defF 2 2 g_check_chain
theorem ar_check_chain : Ar 2 F_check_chain := ar_defF
theorem run_check_chain (x0 x1 : U) (G : Gp) : F_check_chain [x0, x1] G = fin (g_check_chain [some x0, some x1] G) := defF_eq rfl G rfl
def g_on_needed : Ev → Gp → SR := (sSeq (sIf (bVal (eBin gEq (eVar 0) (eC (.int 1)))) (sRet (eC (.int 0))) sNil) (sSeq (sIf (bVal (eBin gEq (eVar 1) (eC (.int 0)))) (sRet (eC .non)) sNil) (sSeq (sAsg (eC (.int 0)) (gNm 2)) (sSeq (whileN (bVal (eBin gLt (eCall bComb (aCons (eBin gAdd (eVar 1) (eVar 2)) (aCons (eVar 1) aNil))) (eVar 0))) (sAug 2 gAugAdd (eC (.int 1))) bigN) (sRet (eBin gSub (eBin gMul (eVar 2) (eVar 0)) (eCall bComb (aCons (eBin gAdd (eVar 1) (eVar 2)) (aCons (eBin gAdd (eVar 1) (eC (.int 1))) aNil)))))))))
def F_on_needed : List U → Gp → R U := defF 2 3 g_on_needed
theorem ar_on_needed : Ar 2 F_on_needed := ar_defF
theorem run_on_needed (x0 x1 : U) (G : Gp) : F_on_needed [x0, x1] G = fin (g_on_needed [some x0, some x1, none] G) := defF_eq rfl G rfl
def g_least_on : Ev → Gp → SR := (sSeq (sExpr (eCall F_check_chain (aCons (eVar 0) (aCons (eVar 1) aNil)))) (sRet (eCall F_on_needed (aCons (eVar 0) (aCons (eVar 1) aNil)))))
def F_least_on : List U → Gp → R U := defF 2 2 g_least_on
theorem ar_least_on : Ar 2 F_least_on := ar_defF
theorem run_least_on (x0 x1 : U) (G : Gp) : F_least_on [x0, x1] G = fin (g_least_on [some x0, some x1] G) := defF_eq rfl G rfl
def g__law_least_tried_1 : Ev → Gp → SR := (sAsg (eCall F_least_on (aCons (eVar 0) (aCons (eVar 1) aNil))) (gNm 2))
def g__law_least_tried : Ev → Gp → SR := (sSeq (sTry exT g__law_least_tried_1 (("InvalidNumber", (some 3), (fun c fs => (sRet (eLst (aCons (eC (.str ("number" : Str))) (aCons (eXf 3 fs "number") aNil)))))) :: (("DealError", none, (fun c fs => (sRet (eLst (aCons (eC (.str ("other" : Str))) (aCons (eC .non) aNil)))))) :: []))) (sRet (eLst (aCons (eC (.str ("told" : Str))) (aCons (eVar 2) aNil)))))
def F__law_least_tried : List U → Gp → R U := defF 2 4 g__law_least_tried
theorem ar__law_least_tried : Ar 2 F__law_least_tried := ar_defF
theorem run__law_least_tried (x0 x1 : U) (G : Gp) : F__law_least_tried [x0, x1] G = fin (g__law_least_tried [some x0, some x1, none, none] G) := defF_eq rfl G rfl
def g_best_first_1 : Ev → Gp → SR := (sSeq (sAsg (eCall F_on_needed (aCons (eBin gSub (eVar 0) (eVar 4)) (aCons (eBin gSub (eVar 1) (eC (.int 1))) aNil))) (gNm 5)) (sSeq (sIf (bVal (eBin gIsN (eVar 5) (eC .non))) sCt sNil) (sSeq (sAsg (eBin gAdd (eBin gAdd (eVar 4) (eVar 5)) (eCall F_on_needed (aCons (eVar 4) (aCons (eVar 1) aNil)))) (gNm 6)) (sIf (tOrB (bVal (eBin gIsN (eVar 2) (eC .non))) (bVal (eBin gLt (eVar 6) (eVar 2)))) (sSeq (sAsg (eVar 6) (gNm 2)) (sAsg (eVar 4) (gNm 3))) sNil))))
def g_best_first : Ev → Gp → SR := (sSeq (sAsg (eC .non) (gNm 2)) (sSeq (sAsg (eC .non) (gNm 3)) (sSeq (sFor (iOfs (aCons (eC (.int 1)) (aCons (eVar 0) aNil)) kRng2) (gNm 4) g_best_first_1) (sRet (eVar 3)))))
def F_best_first : List U → Gp → R U := defF 2 7 g_best_first
theorem ar_best_first : Ar 2 F_best_first := ar_defF
theorem run_best_first (x0 x1 : U) (G : Gp) : F_best_first [x0, x1] G = fin (g_best_first [some x0, some x1, none, none, none, none, none] G) := defF_eq rfl G rfl
def g_deeds_from_1 (rec : List U → Gp → R U) : Ev → Gp → SR := (sExpr (eMeth mAppend (eVar 4) (aCons (eC (.wt [.str ("keep" : Str)])) aNil)))
def g_deeds_from_2 (rec : List U → Gp → R U) : Ev → Gp → SR := (sExpr (eMeth mAppend (eVar 4) (aCons (eTup (aCons (eC (.str ("drop" : Str))) (aCons (eVar 0) aNil))) aNil)))
def g_deeds_from (rec : List U → Gp → R U) : Ev → Gp → SR := (sSeq (sIf (bVal (eBin gEq (eVar 1) (eC (.int 1)))) (sRet (eLst (aCons (eC (.wt [.str ("back" : Str)])) aNil))) sNil) (sSeq (sAsg (eLst aNil) (gNm 4)) (sSeq (sIf (tNotB (bVal (eVar 3))) (g_deeds_from_1 rec) sNil) (sSeq (sAsg (eCall F_best_first (aCons (eVar 1) (aCons (eVar 2) aNil))) (gNm 5)) (sSeq (sExpr (eMeth mExtend (eVar 4) (aCons (eBin gMul (eLst (aCons (eC (.wt [.str ("on" : Str)])) aNil)) (eVar 5)) aNil))) (sSeq (sExpr (eMeth mExtend (eVar 4) (aCons (eCall rec (aCons (eBin gAdd (eVar 0) (eVar 5)) (aCons (eBin gSub (eVar 1) (eVar 5)) (aCons (eBin gSub (eVar 2) (eC (.int 1))) (aCons (eC (.bl false)) aNil))))) aNil))) (sSeq (sExpr (eMeth mAppend (eVar 4) (aCons (eTup (aCons (eC (.str ("take" : Str))) (aCons (eVar 0) aNil))) aNil))) (sSeq (sExpr (eMeth mExtend (eVar 4) (aCons (eCall rec (aCons (eVar 0) (aCons (eVar 5) (aCons (eVar 2) (aCons (eC (.bl true)) aNil))))) aNil))) (sSeq (sIf (tNotB (bVal (eVar 3))) (g_deeds_from_2 rec) sNil) (sRet (eVar 4)))))))))))
def F_deeds_from : Nat → List U → Gp → R U
  | 0 => badF
  | d + 1 => defF 4 6 (g_deeds_from (F_deeds_from d))
theorem ar_deeds_from : ∀ d, Ar 4 (F_deeds_from d)
  | 0 => ar_bad
  | d + 1 => ar_defF
theorem run_deeds_from (d : Nat) (x0 x1 x2 x3 : U) (G : Gp) : F_deeds_from (d + 1) [x0, x1, x2, x3] G = fin (g_deeds_from (F_deeds_from d) [some x0, some x1, some x2, some x3, none, none] G) := defF_eq rfl G rfl
def g_walk_1 : Ev → Gp → SR := (sRaise "Undefined" ["what"] (aCons (eC (.str ("walk" : Str))) aNil))
def g_walk : Ev → Gp → SR := (sSeq (sExpr (eCall F_check_chain (aCons (eVar 0) (aCons (eVar 1) aNil)))) (sSeq (sIf (bVal (eBin gIsN (eCall F_on_needed (aCons (eVar 0) (aCons (eVar 1) aNil))) (eC .non))) g_walk_1 sNil) (sRet (eCall bTuple (aCons (eCall (F_deeds_from 40) (aCons (eC (.int 0)) (aCons (eVar 0) (aCons (eVar 1) (aCons (eC (.bl false)) aNil))))) aNil)))))
def F_walk : List U → Gp → R U := defF 2 2 g_walk
theorem ar_walk : Ar 2 F_walk := ar_defF
theorem run_walk (x0 x1 : U) (G : Gp) : F_walk [x0, x1] G = fin (g_walk [some x0, some x1] G) := defF_eq rfl G rfl
def g__law_walk_tried_1 : Ev → Gp → SR := (sAsg (eCall F_walk (aCons (eVar 0) (aCons (eVar 1) aNil))) (gNm 2))
def g__law_walk_tried : Ev → Gp → SR := (sSeq (sTry exT g__law_walk_tried_1 (("InvalidNumber", (some 3), (fun c fs => (sRet (eLst (aCons (eC (.str ("number" : Str))) (aCons (eXf 3 fs "number") aNil)))))) :: (("Undefined", (some 3), (fun c fs => (sRet (eLst (aCons (eC (.str ("what" : Str))) (aCons (eXf 3 fs "what") aNil)))))) :: (("DealError", none, (fun c fs => (sRet (eLst (aCons (eC (.str ("other" : Str))) (aCons (eC .non) aNil)))))) :: [])))) (sRet (eLst (aCons (eC (.str ("told" : Str))) (aCons (eVar 2) aNil)))))
def F__law_walk_tried : List U → Gp → R U := defF 2 4 g__law_walk_tried
theorem ar__law_walk_tried : Ar 2 F__law_walk_tried := ar_defF
theorem run__law_walk_tried (x0 x1 : U) (G : Gp) : F__law_walk_tried [x0, x1] G = fin (g__law_walk_tried [some x0, some x1, none, none] G) := defF_eq rfl G rfl
def g__law_walked_1 : Ev → Gp → SR := (sIf (tAndB (bVal (eBin gEq (eCall bLen (aCons (eVar 8) aNil)) (eC (.int 2)))) (tAndB (bVal (eCall F__law_is_number (aCons (eBin gIdx (eVar 8) (eC (.int 1))) aNil))) (tAndB (bVal (eBin (gInD false false) (eBin gIdx (eVar 8) (eC (.int 1))) (eVar 7))) (bVal (eBin gEq (eBin gIdx (eVar 8) (eC (.int 0))) (eC (.str ("drop" : Str)))))))) (sExpr (ePopD (eVar 7) (eBin gIdx (eVar 8) (eC (.int 1))))) (sRet (eC .non)))
def g__law_walked_2 : Ev → Gp → SR := (sIf (tAndB (bVal (eBin gEq (eCall bLen (aCons (eVar 8) aNil)) (eC (.int 2)))) (tAndB (bVal (eCall F__law_is_number (aCons (eBin gIdx (eVar 8) (eC (.int 1))) aNil))) (tAndB (bVal (eBin (gInD false false) (eBin gIdx (eVar 8) (eC (.int 1))) (eVar 7))) (bVal (eBin gEq (eBin gIdx (eVar 8) (eC (.int 0))) (eC (.str ("take" : Str)))))))) (sAsg (eBin gIdx (eVar 8) (eC (.int 1))) (gNm 3)) g__law_walked_1)
def g__law_walked_3 : Ev → Gp → SR := (sSeq (sAsg (eC (.bl true)) (gSubD false (eVar 7) (eVar 3))) (sAsg (eCall bMax2 (aCons (eVar 6) (aCons (eCall bLenD (aCons (eVar 7) aNil)) aNil))) (gNm 6)))
def g__law_walked_4 : Ev → Gp → SR := (sIf (tAndB (bVal (eBin gEq (eVar 8) (eTup (aCons (eC (.str ("back" : Str))) aNil)))) (tAndB (bVal (eBin gGt (eVar 4) (eC (.int 0)))) (bVal (eBin gEq (eVar 3) (eBin gSub (eVar 4) (eC (.int 1))))))) (sAsg (eBin gSub (eVar 4) (eC (.int 1))) (gNm 4)) g__law_walked_2)
def g__law_walked_5 : Ev → Gp → SR := (sSeq (sAsg (eBin gAdd (eVar 3) (eC (.int 1))) (gNm 3)) (sAsg (eBin gAdd (eVar 5) (eC (.int 1))) (gNm 5)))
def g__law_walked_6 : Ev → Gp → SR := (sIf (tAndB (bVal (eBin gEq (eVar 8) (eTup (aCons (eC (.str ("keep" : Str))) aNil)))) (tAndB (bVal (eBin (gInD false true) (eVar 3) (eVar 7))) (bVal (eBin gLt (eCall bLenD (aCons (eVar 7) aNil)) (eVar 2))))) g__law_walked_3 g__law_walked_4)
def g__law_walked_7 : Ev → Gp → SR := (sSeq (sIf (tOrB (tNotB (bVal (eIs tbTup (eVar 8)))) (tOrB (bVal (eBin gEq (eCall bLen (aCons (eVar 8) aNil)) (eC (.int 0)))) (tOrB (bVal (eBin gGt (eCall bLen (aCons (eVar 8) aNil)) (eC (.int 2)))) (tNotB (bVal (eIs tbStr (eBin gIdx (eVar 8) (eC (.int 0))))))))) (sRet (eC .non)) sNil) (sIf (tAndB (bVal (eBin gEq (eVar 8) (eTup (aCons (eC (.str ("on" : Str))) aNil)))) (bVal (eBin gLt (eVar 3) (eBin gSub (eVar 1) (eC (.int 1)))))) g__law_walked_5 g__law_walked_6))
def g__law_walked : Ev → Gp → SR := (sSeq (sIf (tNotB (bVal (eIs tbTup (eVar 0)))) (sRet (eC .non)) sNil) (sSeq (sAsg (eC (.int 0)) (gNm 3)) (sSeq (sAsg (eVar 1) (gNm 4)) (sSeq (sAsg (eC (.int 0)) (gNm 5)) (sSeq (sAsg (eC (.int 0)) (gNm 6)) (sSeq (sAsg (eDict0 false) (gNm 7)) (sSeq (sFor (iOf (eVar 0) kSeq) (gNm 8) g__law_walked_7) (sSeq (sIf (bVal (eBin gGt (eVar 4) (eC (.int 0)))) (sRet (eC .non)) sNil) (sRet (eLst (aCons (eVar 5) (aCons (eVar 6) aNil))))))))))))
def F__law_walked : List U → Gp → R U := defF 3 9 g__law_walked
theorem ar__law_walked : Ar 3 F__law_walked := ar_defF
theorem run__law_walked (x0 x1 x2 : U) (G : Gp) : F__law_walked [x0, x1, x2] G = fin (g__law_walked [some x0, some x1, some x2, none, none, none, none, none, none] G) := defF_eq rfl G rfl
def g__law_is_least_1 : Ev → Gp → SR := (sRet (eBin gEq (eVar 3) (eLst (aCons (eC (.str ("what" : Str))) (aCons (eC (.str ("walk" : Str))) aNil)))))
def g__law_is_least : Ev → Gp → SR := (sSeq (sAsg (eCall F__law_least_tried (aCons (eVar 0) (aCons (eVar 1) aNil))) (gNm 3)) (sSeq (sIf (tOrB (bVal (eBin gNe (eBin gIdx (eVar 3) (eC (.int 0))) (eC (.str ("told" : Str))))) (tOrB (bVal (eIs tbBool (eBin gIdx (eVar 3) (eC (.int 1))))) (bVal (eBin gNe (eBin gIdx (eVar 3) (eC (.int 1))) (eVar 2))))) (sRet (eC (.bl false))) sNil) (sSeq (sAsg (eCall F__law_walk_tried (aCons (eVar 0) (aCons (eVar 1) aNil))) (gNm 3)) (sSeq (sIf (bVal (eBin gIsN (eVar 2) (eC .non))) g__law_is_least_1 sNil) (sSeq (sIf (tOrB (bVal (eBin gNe (eBin gIdx (eVar 3) (eC (.int 0))) (eC (.str ("told" : Str))))) (tNotB (bVal (eIs tbTup (eBin gIdx (eVar 3) (eC (.int 1))))))) (sRet (eC (.bl false))) sNil) (sSeq (sAsg (eCall F__law_walked (aCons (eBin gIdx (eVar 3) (eC (.int 1))) (aCons (eVar 0) (aCons (eVar 1) aNil)))) (gNm 4)) (sRet (eAnd (eBin gNotN (eVar 4) (eC .non)) (eBin gEq (eBin gIdx (eVar 4) (eC (.int 0))) (eVar 2))))))))))
def F__law_is_least : List U → Gp → R U := defF 3 5 g__law_is_least
theorem ar__law_is_least : Ar 3 F__law_is_least := ar_defF
theorem run__law_is_least (x0 x1 x2 : U) (G : Gp) : F__law_is_least [x0, x1, x2] G = fin (g__law_is_least [some x0, some x1, some x2, none, none] G) := defF_eq rfl G rfl
def g__law_odd : Ev → Gp → SR := (sRet (eBin gIdx (eLst (aCons (eC (.int 0)) (aCons (eC (.int 41)) (aCons (eUn gNeg (eC (.int 1))) (aCons (eC (.bl true)) (aCons (eC (.bl false)) (aCons (eC .non) (aCons (eC (.str ("3" : Str))) (aCons (eTup (aCons (eC (.int 3)) aNil)) (aCons (eC (.str ("" : Str))) (aCons (eBin gPow (eC (.int 10)) (eC (.int 60))) (aCons (eUn gNeg (eC (.int 40))) (aCons (eC (.int 42)) (aCons (eTup aNil) (aCons (eTup (aCons (eTup (aCons (eC (.int 1)) (aCons (eC (.int 2)) aNil))) (aCons (eC (.int 3)) aNil))) aNil))))))))))))))) (eCall F__law_draw (aCons (eVar 0) (aCons (eC (.int 14)) aNil)))))
def F__law_odd : List U → Gp → R U := defF 1 1 g__law_odd
theorem ar__law_odd : Ar 1 F__law_odd := ar_defF
theorem run__law_odd (x0 : U) (G : Gp) : F__law_odd [x0] G = fin (g__law_odd [some x0] G) := defF_eq rfl G rfl
def g__law_choose_1 : Ev → Gp → SR := (sAsg (eBin gFdiv (eBin gMul (eVar 2) (eBin gSub (eVar 0) (eVar 3))) (eBin gAdd (eVar 3) (eC (.int 1)))) (gNm 2))
def g__law_choose : Ev → Gp → SR := (sSeq (sIf (bVal (eBin gGt (eVar 1) (eVar 0))) (sRet (eC (.int 0))) sNil) (sSeq (sAsg (eC (.int 1)) (gNm 2)) (sSeq (sFor (iOfs (aCons (eCall bMin2 (aCons (eVar 1) (aCons (eBin gSub (eVar 0) (eVar 1)) aNil))) aNil) kRng1) (gNm 3) g__law_choose_1) (sRet (eVar 2)))))
def F__law_choose : List U → Gp → R U := defF 2 4 g__law_choose
theorem ar__law_choose : Ar 2 F__law_choose := ar_defF
theorem run__law_choose (x0 x1 : U) (G : Gp) : F__law_choose [x0, x1] G = fin (g__law_choose [some x0, some x1, none, none] G) := defF_eq rfl G rfl
def g__law_least_1 : Ev → Gp → SR := (sSeq (sIf (bVal (eBin gGe (eCall F__law_choose (aCons (eBin gAdd (eVar 1) (eVar 2)) (aCons (eVar 1) aNil))) (eVar 0))) sBrk sNil) (sAsg (eBin gAdd (eVar 2) (eC (.int 1))) (gNm 2)))
def g__law_least : Ev → Gp → SR := (sSeq (sIf (bVal (eBin gEq (eVar 0) (eC (.int 1)))) (sRet (eC (.int 0))) sNil) (sSeq (sIf (bVal (eBin gEq (eVar 1) (eC (.int 0)))) (sRet (eC .non)) sNil) (sSeq (sAsg (eC (.int 0)) (gNm 2)) (sSeq (sFor (iOfs (aCons (eC (.int 41)) aNil) kRng1) (gNm 3) g__law_least_1) (sRet (eBin gSub (eBin gMul (eVar 2) (eVar 0)) (eCall F__law_choose (aCons (eBin gAdd (eVar 1) (eVar 2)) (aCons (eBin gAdd (eVar 1) (eC (.int 1))) aNil)))))))))
def F__law_least : List U → Gp → R U := defF 2 4 g__law_least
theorem ar__law_least : Ar 2 F__law_least := ar_defF
theorem run__law_least (x0 x1 : U) (G : Gp) : F__law_least [x0, x1] G = fin (g__law_least [some x0, some x1, none, none] G) := defF_eq rfl G rfl
def g_law_1 : Ev → Gp → SR := (sAsg (eCall F__law_odd (aCons (eVar 1) aNil)) (gSubE (eVar 5) (eC (.int 0))))
def g_law_2 : Ev → Gp → SR := (sAsg (eCall F__law_odd (aCons (eVar 1) aNil)) (gSubE (eVar 5) (eC (.int 1))))
def g_law_3 : Ev → Gp → SR := (sRet (eCall F__law_is_least (aCons (eBin gIdx (eVar 5) (eC (.int 0))) (aCons (eBin gIdx (eVar 5) (eC (.int 1))) (aCons (eCall F__law_least (aCons (eBin gIdx (eVar 5) (eC (.int 0))) (aCons (eBin gIdx (eVar 5) (eC (.int 1))) aNil))) aNil)))))
def g_law : Ev → Gp → SR := (sSeq (sAsg (eCall F__law_box (aCons (eVar 0) aNil)) (gNm 1)) (sSeq (sAsg (eBin gIdx (eLst (aCons (eC (.int 1)) (aCons (eC (.int 2)) (aCons (eC (.int 3)) (aCons (eC (.int 3)) (aCons (eC (.int 4)) (aCons (eC (.int 4)) (aCons (eC (.int 4)) (aCons (eC (.int 5)) aNil))))))))) (eCall F__law_draw (aCons (eVar 1) (aCons (eC (.int 8)) aNil)))) (gNm 2)) (sSeq (sAsg (eCall F__law_draw (aCons (eVar 1) (aCons (eC (.int 6)) aNil))) (gNm 3)) (sSeq (sAsg (eCall F__law_searched (aCons (eVar 2) (aCons (eVar 3) aNil))) (gNm 4)) (sSeq (sIf (tOrB (bVal (eBin gNe (eVar 4) (eCall F__law_least (aCons (eVar 2) (aCons (eVar 3) aNil))))) (tNotB (bVal (eCall F__law_is_least (aCons (eVar 2) (aCons (eVar 3) (aCons (eVar 4) aNil))))))) (sRet (eC (.bl false))) sNil) (sSeq (sAsg (eBin gAdd (eC (.int 1)) (eCall F__law_draw (aCons (eVar 1) (aCons (eC (.int 40)) aNil)))) (gNm 2)) (sSeq (sAsg (eCall F__law_draw (aCons (eVar 1) (aCons (eBin gIdx (eLst (aCons (eC (.int 4)) (aCons (eC (.int 7)) (aCons (eC (.int 41)) aNil)))) (eCall F__law_draw (aCons (eVar 1) (aCons (eC (.int 3)) aNil)))) aNil))) (gNm 3)) (sSeq (sIf (tNotB (bVal (eCall F__law_is_least (aCons (eVar 2) (aCons (eVar 3) (aCons (eCall F__law_least (aCons (eVar 2) (aCons (eVar 3) aNil))) aNil)))))) (sRet (eC (.bl false))) sNil) (sSeq (sAsg (eLst (aCons (eBin gIdx (eLst (aCons (eC (.int 1)) (aCons (eC (.int 2)) (aCons (eC (.int 40)) (aCons (eVar 2) aNil))))) (eCall F__law_draw (aCons (eVar 1) (aCons (eC (.int 4)) aNil)))) (aCons (eBin gIdx (eLst (aCons (eC (.int 0)) (aCons (eC (.int 1)) (aCons (eC (.int 40)) (aCons (eVar 3) aNil))))) (eCall F__law_draw (aCons (eVar 1) (aCons (eC (.int 4)) aNil)))) aNil))) (gNm 5)) (sSeq (sAsg (eCall F__law_draw (aCons (eVar 1) (aCons (eC (.int 3)) aNil))) (gNm 6)) (sSeq (sIf (bVal (eBin gNe (eVar 6) (eC (.int 1)))) g_law_1 sNil) (sSeq (sIf (bVal (eBin gNe (eVar 6) (eC (.int 0)))) g_law_2 sNil) (sSeq (sAsg (eCall F__law_wrong (aCons (eBin gIdx (eVar 5) (eC (.int 0))) (aCons (eBin gIdx (eVar 5) (eC (.int 1))) aNil))) (gNm 7)) (sSeq (sIf (bVal (eBin gEq (eCall bLen (aCons (eVar 7) aNil)) (eC (.int 0)))) g_law_3 sNil) (sSeq (sIf (tNotB (bVal (eCall F__law_refused (aCons (eCall F__law_least_tried (aCons (eBin gIdx (eVar 5) (eC (.int 0))) (aCons (eBin gIdx (eVar 5) (eC (.int 1))) aNil))) (aCons (eVar 7) aNil))))) (sRet (eC (.bl false))) sNil) (sRet (eCall F__law_refused (aCons (eCall F__law_walk_tried (aCons (eBin gIdx (eVar 5) (eC (.int 0))) (aCons (eBin gIdx (eVar 5) (eC (.int 1))) aNil))) (aCons (eVar 7) aNil)))))))))))))))))))
def F_law : List U → Gp → R U := defF 1 8 g_law
theorem ar_law : Ar 1 F_law := ar_defF
theorem run_law (x0 : U) (G : Gp) : F_law [x0] G = fin (g_law [some x0, none, none, none, none, none, none, none] G) := defF_eq rfl G rfl
end K96

set_option Elab.async false
set_option linter.all false
set_option maxRecDepth 100000
set_option maxHeartbeats 4000000
set_option autoImplicit false
namespace K96
open PySem PySem.Spec L2 FL

theorem set_get {G : Gp} {l : Nat} {x y : OU} (h : G[l]? = some x) : (G.set l y)[l]? = some y := List.getElem?_set_self (List.getElem?_eq_some_iff.mp h).1
theorem cutU_map {α : Type} (f : α → U) (xs : List α) (lo hi : Option Int) : cutU (xs.map f) lo hi = (cutU xs lo hi).map f := by
  unfold cutU
  simp [List.map_take, List.map_drop]
theorem cutU_len {α : Type} (xs : List α) (lo hi : Option Int) : (cutU xs lo hi).length ≤ xs.length := by
  unfold cutU
  simp
  omega
theorem seqU_of {G : Gp} {l : Nat} {xs : List U} (h : G[l]? = some (.lst xs)) : seqU G (.ref l) = some xs := by rw [seqU_ref, h]
/-! ### the box -/
def Mx (a : Int) : Prop := 0 ≤ a ∧ a < 2305843009213693951
theorem Mx.mod (i : Int) : Mx (i % 2305843009213693951) := ⟨Int.emod_nonneg _ (by decide), Int.emod_lt_of_pos i (by decide)⟩
theorem Mx.nat {a : Int} (h : Mx a) : a.natAbs < 2 ^ 64 := by have := h.1; have := h.2; omega
def boxU (a b : Int) : OU := .lst [.int a, .int b, .ref 0]
def Dr (G : Gp) : Prop := ∃ (a b : Int) (cs : List Int), Mx a ∧ G[2]? = some (boxU a b) ∧ G[0]? = some (.lst (cs.map .int))
def Oth (G G' : Gp) : Prop := G'.length = G.length ∧ ∀ l, 2 < l → G'[l]? = G[l]?
theorem Oth.refl (G : Gp) : Oth G G := ⟨rfl, fun _ _ => rfl⟩
theorem Oth.trans {G G1 G2 : Gp} (a : Oth G G1) (b : Oth G1 G2) : Oth G G2 := ⟨b.1.trans a.1, fun l h => (b.2 l h).trans (a.2 l h)⟩
theorem oth_set {G : Gp} {l : Nat} (h : l ≤ 2) (o : OU) : Oth G (G.set l o) := ⟨by simp, fun m hm => by rw [List.getElem?_set_ne (by omega)]⟩
theorem box0 {a b : Int} {G : Gp} (h : G[2]? = some (boxU a b)) : gIdx (.ref 2) (.int 0) G = .ok (.int a) G := gIdx_ref h (atI_pos (by decide) rfl)
theorem box1 {a b : Int} {G : Gp} (h : G[2]? = some (boxU a b)) : gIdx (.ref 2) (.int 1) G = .ok (.int b) G := gIdx_ref h (atI_pos (by decide) rfl)
theorem box2 {a b : Int} {G : Gp} (h : G[2]? = some (boxU a b)) : gIdx (.ref 2) (.int 2) G = .ok (.ref 0) G := gIdx_ref h (atI_pos (by decide) rfl)
theorem set0 {a b c : Int} {G : Gp} (h : G[2]? = some (boxU a b)) : setU (.ref 2) (.int 0) (.int c) G = .ok () (G.set 2 (boxU c b)) := setU_ref h (by decide) (by simp)
theorem set1 {a b c : Int} {G : Gp} (h : G[2]? = some (boxU a b)) : setU (.ref 2) (.int 1) (.int c) G = .ok () (G.set 2 (boxU a c)) := setU_ref h (by decide) (by simp)
theorem mPop_ref {G : Gp} {l : Nat} {xs : List U} {y : U} (h : G[l]? = some (.lst (xs ++ [y]))) : mPop (.ref l) [] G = .ok y (G.set l (.lst xs)) := by
  unfold mPop
  simp only [h]
  simp
def EnvR (m : Int) (k n : Option U) : Ev := [some (.ref 2), some (.int m), k, n]
theorem draw_loop {m : Int} {G : Gp} (hD : Dr G) : ∃ (k : Option U) (G' : Gp), sFor (iOfs (aCons (eC (.int 63)) aNil) kRng1) (gNm 2) g__law_draw_1 (EnvR m none none) G = .nx (EnvR m k none) G' ∧ Dr G' ∧ Oth G G' := by
  refine sFor_rng1 (j := 63) (G1 := G) (fun i e G' => ∃ k, e = EnvR m k none ∧ Dr G' ∧ Oth G G') (fun r => ∃ (k : Option U) (G' : Gp), r = .nx (EnvR m k none) G' ∧ Dr G' ∧ Oth G G') (by simp) (by decide) (by decide) ⟨none, rfl, hD, Oth.refl _⟩ ?_ ?_
  · intro i hi e G1 hI
    obtain ⟨k, he, ⟨a, b, cs, ha, h2, h0⟩, o1⟩ := hI
    generalize ((i : Nat) : Int) = ii
    have i1 := box1 h2
    have i2 := box2 h2
    have bl : bLen [.ref 0] G1 = .ok (.int (cs.length : Nat)) G1 := by rw [bLen_seq (seqU_of h0), List.length_map]
    by_cases c1 : 1 < b
    · have fine : (gNm 2 (.int ii) e G1).andThen e (fun env1 G1 => g__law_draw_1 env1 G1) = .brk (EnvR m (some (.int ii)) none) G1 := by
        subst he
        simp [EnvR, g__law_draw_1, i1, c1]
      rw [fine]
      exact ⟨_, G1, rfl, ⟨a, b, cs, ha, h2, h0⟩, o1⟩
    · obtain ⟨li, hli⟩ : ∃ li : Int, li = ((cs.length : Nat) : Int) := ⟨_, rfl⟩
      rw [← hli] at bl
      by_cases c2 : li = 0
      · have fine : (gNm 2 (.int ii) e G1).andThen e (fun env1 G1 => g__law_draw_1 env1 G1) = .brk (EnvR m (some (.int ii)) none) G1 := by
          subst he
          subst c2
          simp [EnvR, g__law_draw_1, i1, c1, i2, bl]
        rw [fine]
        exact ⟨_, G1, rfl, ⟨a, b, cs, ha, h2, h0⟩, o1⟩
      · have hne : cs ≠ [] := fun z => c2 (by rw [hli, z]; rfl)
        obtain ⟨ds, z, hcs⟩ : ∃ ds z, cs = ds ++ [z] := ⟨cs.dropLast, cs.getLast hne, (List.dropLast_concat_getLast hne).symm⟩
        have h0' : G1[0]? = some (.lst (ds.map .int ++ [.int z])) := by rw [h0, hcs, List.map_append]; rfl
        have pp := mPop_ref h0'
        have il := isLst_ref h0
        obtain ⟨G2, hG2⟩ : ∃ G2, G2 = G1.set 0 (.lst (ds.map .int)) := ⟨_, rfl⟩
        rw [← hG2] at pp
        have h22 : G2[2]? = some (boxU a b) := by rw [hG2, List.getElem?_set_ne (by decide)]; exact h2
        have s1 := set1 (c := z) h22
        have fine : (gNm 2 (.int ii) e G1).andThen e (fun env1 G1 => g__law_draw_1 env1 G1) = .nx (EnvR m (some (.int ii)) none) (G2.set 2 (boxU a z)) := by
          subst he
          simp [EnvR, g__law_draw_1, i1, c1, i2, bl, c2, eMeth_, il, pp, s1]
        rw [fine]
        refine ⟨_, rfl, ⟨a, z, ds, ha, set_get h22, ?_⟩, ?_⟩
        · rw [List.getElem?_set_ne (by decide), hG2]
          exact set_get h0
        · refine o1.trans (Oth.trans ?_ (oth_set (by decide) _))
          rw [hG2]
          exact oth_set (by decide) _
  · intro e G1 hI
    obtain ⟨k, he, hD1, o1⟩ := hI
    subst he
    exact ⟨k, G1, rfl, hD1, o1⟩
theorem draw_spec {G : Gp} {m : Int} (hD : Dr G) (hm : 0 < m) (hm2 : m < 1000000) : ∃ r G', F__law_draw [.ref 2, .int m] G = .ok (.int r) G' ∧ 0 ≤ r ∧ r < m ∧ Oth G G' ∧ Dr G' := by
  rw [run__law_draw]
  obtain ⟨k, G1, L, ⟨a, b, cs, ha, h2, h0⟩, o1⟩ := draw_loop (m := m) hD
  have i1 := box1 h2
  have i0 := box0 h2
  unfold g__law_draw
  rw [show ([some (.ref 2), some (.int m), none, none] : Ev) = EnvR m none none from rfl, seq_nx L]
  by_cases c : 1 < b
  · have m1 : gMod (.int b) (.int m) G1 = .ok (.int (b % m)) G1 := gMod_ii hm
    have f1 : gFdiv (.int b) (.int m) G1 = .ok (.int (b / m)) G1 := gFdiv_ii hm (by omega)
    have s1 := set1 (c := b / m) h2
    refine ⟨b % m, G1.set 2 (boxU a (b / m)), ?_, Int.emod_nonneg _ (by omega), Int.emod_lt_of_pos _ hm, o1.trans (oth_set (by decide) _), a, b / m, cs, ha, set_get h2, by rw [List.getElem?_set_ne (by decide)]; exact h0⟩
    simp [EnvR, i1, c, g__law_draw_2, m1, f1, s1]
  · obtain ⟨a1, ha1⟩ : ∃ a1, a1 = (a * a + 1442695040888963407) % 2305843009213693951 := ⟨_, rfl⟩
    have mx1 : Mx a1 := by rw [ha1]; exact Mx.mod _
    obtain ⟨a2, ha2⟩ : ∃ a2, a2 = (a1 * a1 + 3037000493) % 2305843009213693951 := ⟨_, rfl⟩
    have mx2 : Mx a2 := by rw [ha2]; exact Mx.mod _
    have u1 : gMul (.int a) (.int a) G1 = .ok (.int (a * a)) G1 := gMul_ii (mulOk_small ha.nat)
    have v1 : gMod (.int (a * a + 1442695040888963407)) (.int 2305843009213693951) G1 = .ok (.int a1) G1 := by rw [ha1]; exact gMod_ii (by decide)
    have s1 := set0 (c := a1) h2
    obtain ⟨G2, hG2⟩ : ∃ G2, G2 = G1.set 2 (boxU a1 b) := ⟨_, rfl⟩
    rw [← hG2] at s1
    have h22 : G2[2]? = some (boxU a1 b) := by rw [hG2]; exact set_get h2
    have j0 := box0 h22
    have u2 : gMul (.int a1) (.int a1) G2 = .ok (.int (a1 * a1)) G2 := gMul_ii (mulOk_small mx1.nat)
    have v2 : gMod (.int (a1 * a1 + 3037000493)) (.int 2305843009213693951) G2 = .ok (.int a2) G2 := by rw [ha2]; exact gMod_ii (by decide)
    have s2 := set0 (c := a2) h22
    obtain ⟨G3, hG3⟩ : ∃ G3, G3 = G2.set 2 (boxU a2 b) := ⟨_, rfl⟩
    rw [← hG3] at s2
    have h23 : G3[2]? = some (boxU a2 b) := by rw [hG3]; exact set_get h22
    have l0 := box0 h23
    have f3 : gFdiv (.int a2) (.int 65536) G3 = .ok (.int (a2 / 65536)) G3 := gFdiv_ii (by decide) (by decide)
    have m3 : gMod (.int (a2 / 65536)) (.int m) G3 = .ok (.int (a2 / 65536 % m)) G3 := gMod_ii hm
    refine ⟨a2 / 65536 % m, G3, ?_, Int.emod_nonneg _ (by omega), Int.emod_lt_of_pos _ hm, o1.trans ?_, a2, b, cs, mx2, h23, ?_⟩
    · simp [EnvR, i1, c, i0, u1, v1, s1, j0, u2, v2, s2, l0, f3, m3]
    · rw [hG3, hG2]; exact (oth_set (by decide) _).trans (oth_set (by decide) _)
    · rw [hG3, List.getElem?_set_ne (by decide), hG2, List.getElem?_set_ne (by decide)]; exact h0
def EnvX (xs : List U) (mix : Int) (c : Option U) : Ev := [some (.rl xs), some (.int mix), some (.ref 0), c]
theorem box_spec {ns : List Int} (h1 : ns.length ≤ 63) : ∃ G', F__law_box [.rl (ns.map .int)] [] = .ok (.ref 2) G' ∧ Dr G' ∧ 2 < G'.length := by
  rw [run__law_box]
  generalize hxs : ns.map U.int = xs
  obtain ⟨ys, hys⟩ : ∃ ys, ys = cutU ns none (some 63) := ⟨_, rfl⟩
  have hcut : cutU xs none (some 63) = ys.map .int := by rw [← hxs, cutU_map, hys]
  have hyl : ys.length ≤ 63 := by have := cutU_len ns none (some 63); rw [← hys] at this; omega
  have L : ∃ (mix : Int) (c : Option U) (cs : List Int), sFor (iOf (eSl (eVar 0) pNo (pInt (eC (.int 63)))) kSeq) (gNm 3) g__law_box_2 (EnvX xs 1234567891011 none) [.lst []] = .nx (EnvX xs mix c) [.lst (cs.map .int), .lst (ys.map .int)] ∧ Mx mix := by
    refine sFor_ref (l := 1) (xs := ys.map .int) (G1 := [.lst [], .lst (ys.map .int)]) (fun i e G => ∃ (mix : Int) (c : Option U) (cs : List Int), e = EnvX xs mix c ∧ G = [.lst (cs.map .int), .lst (ys.map .int)] ∧ cs.length ≤ i ∧ Mx mix) (fun r => ∃ (mix : Int) (c : Option U) (cs : List Int), r = .nx (EnvX xs mix c) [.lst (cs.map .int), .lst (ys.map .int)] ∧ Mx mix) (by simp [EnvX, gSl, hcut]) rfl ?_ ⟨_, _, [], rfl, rfl, Nat.zero_le _, by decide, by decide⟩ ?_ ?_
    · rintro i e G ⟨mix, c, cs, _, rfl, _⟩
      rfl
    · intro i hi e G hI
      obtain ⟨mix, c, cs, he, hG, hl, hm⟩ := hI
      rw [List.getElem_map]
      have hi' : i < 63 := by simp at hi; omega
      generalize ys[i]'(by simpa using hi) = z
      obtain ⟨f, hf⟩ : ∃ f : Int, f = if z < 0 then 1 else 0 := ⟨_, rfl⟩
      have b1 : bInt [.bl (decide (z < 0))] G = .ok (.int f) G := by
        rw [hf]
        by_cases c0 : z < 0
        · rw [if_pos c0, decide_eq_true c0]; rfl
        · rw [if_neg c0, decide_eq_false c0]; rfl
      have f1 : f.natAbs < 2 ^ 64 := by rw [hf]; split <;> decide
      have u1 : gMul (.int mix) (.int mix) G = .ok (.int (mix * mix)) G := gMul_ii (mulOk_small hm.nat)
      have u2 : gMul (.int 7) (.int f) G = .ok (.int (7 * f)) G := gMul_ii (mulOk_small (by decide))
      obtain ⟨w, hw⟩ : ∃ w : Int, bAbs [.int z] G = .ok (.int w) G := ⟨_, rfl⟩
      have v1 : gMod (.int (mix * mix + w + 7 * f + 11)) (.int 2305843009213693951) G = .ok (.int ((mix * mix + w + 7 * f + 11) % 2305843009213693951)) G := gMod_ii (by decide)
      have mx := Mx.mod (mix * mix + w + 7 * f + 11)
      generalize (mix * mix + w + 7 * f + 11) % 2305843009213693951 = mix' at v1 mx
      have h0 : G[0]? = some (.lst (cs.map .int)) := by rw [hG]; rfl
      by_cases c1 : (1000000000000000000 : Int) ≤ w
      · have ap : mAppend (.ref 0) [.int w] G = .ok .non (G.set 0 (.lst (cs.map .int ++ [.int w]))) := mAppend_ref h0 (by simp; omega)
        have il := isLst_ref h0
        have fine : (gNm 3 (.int z) e G).andThen e (fun env1 G1 => g__law_box_2 env1 G1) = .nx (EnvX xs mix' (some (.int z))) (G.set 0 (.lst (cs.map .int ++ [.int w]))) := by
          subst he
          simp [EnvX, g__law_box_2, g__law_box_1, u1, hw, b1, u2, v1, c1, eMeth_, il, ap]
        rw [fine]
        exact ⟨_, _, cs ++ [w], rfl, by rw [hG]; simp, by simp; omega, mx⟩
      · have fine : (gNm 3 (.int z) e G).andThen e (fun env1 G1 => g__law_box_2 env1 G1) = .nx (EnvX xs mix' (some (.int z))) G := by
          subst he
          simp [EnvX, g__law_box_2, g__law_box_1, u1, hw, b1, u2, v1, c1]
        rw [fine]
        exact ⟨_, _, cs, rfl, hG, by omega, mx⟩
    · intro e G hI
      obtain ⟨mix, c, cs, he, hG, hl, hm⟩ := hI
      subst he
      subst hG
      exact ⟨mix, c, cs, rfl, hm⟩
  obtain ⟨mix, c, cs, L, hm⟩ := L
  obtain ⟨G1, hG1⟩ : ∃ G1, G1 = [OU.lst (cs.map .int), .lst (ys.map .int)] := ⟨_, rfl⟩
  have h0 : G1[0]? = some (.lst (cs.map .int)) := by rw [hG1]; rfl
  have rv := mReverse_ref h0
  have il := isLst_ref h0
  obtain ⟨G2, hG2⟩ : ∃ G2, G2 = G1.set 0 (.lst (cs.map .int).reverse) := ⟨_, rfl⟩
  rw [← hG2] at rv
  have l2 : G2.length = 2 := by rw [hG2, hG1]; rfl
  have h02 : G2[0]? = some (.lst (cs.reverse.map .int)) := by rw [hG2, ← List.map_reverse]; exact set_get h0
  refine ⟨G2 ++ [boxU mix 0], ?_, ⟨mix, 0, cs.reverse, hm, by rw [List.getElem?_append_right (by omega), l2]; rfl, by rw [List.getElem?_append_left (by omega)]; exact h02⟩, by simp [l2]⟩
  unfold g__law_box
  rw [seq_nx (e' := [some (.rl xs), some (.int 1234567891011), none, none]) (G' := []) (by simp), seq_nx (e' := EnvX xs 1234567891011 none) (G' := [.lst []]) (by simp [EnvX]), seq_nx L, ← hG1, seq_nx (e' := EnvX xs mix c) (G' := G2) (by simp [EnvX, eMeth_, il, rv])]
  simp [EnvX, l2, boxU]
end K96

set_option Elab.async false
set_option linter.all false
set_option maxRecDepth 100000
set_option maxHeartbeats 4000000
set_option autoImplicit false
namespace K96
open PySem PySem.Spec L2 FL
/-! ### numbers of choices, steps needed -/
def prodL (n : Nat) : Nat → Nat
  | 0 => 1
  | i + 1 => prodL n i * (n - i) / (i + 1)
def chN (n k : Nat) : Nat := if n < k then 0 else prodL n (min k (n - k))
theorem mc_tab : ∀ n, n < 82 → ∀ k, k < 42 → PySem.W.mcComb (n : Nat) (k : Nat) = (chN n k : Nat) := by decide +kernel
def oftG (m r : Nat) : Nat → Nat → Nat
  | 0, o => o
  | f + 1, o => if m ≤ chN (r + o) r then o else oftG m r f (o + 1)
def oft (m r : Nat) : Nat := oftG m r 41 0
def need (m r : Nat) : Option Nat := if m = 1 then some 0 else if r = 0 then none else some (oft m r * m - chN (r + oft m r) (r + 1))
theorem oft_tab : ∀ m, m < 41 → ∀ r, r < 41 → 0 < r → 0 < m → oft m r ≤ 39 ∧ m ≤ chN (r + oft m r) r ∧ chN (r + oft m r) (r + 1) ≤ oft m r * m := by decide +kernel
theorem oftG_min {m r : Nat} : ∀ f o, ∀ q, o ≤ q → q < oftG m r f o → chN (r + q) r < m
  | 0, o, q, h1, h2 => by unfold oftG at h2; omega
  | f + 1, o, q, h1, h2 => by
    unfold oftG at h2
    by_cases c : m ≤ chN (r + o) r
    · rw [if_pos c] at h2; omega
    · rw [if_neg c] at h2
      by_cases e : q = o
      · subst e; omega
      · exact oftG_min f (o + 1) q (by omega) h2
theorem oft_min {m r q : Nat} (h : q < oft m r) : chN (r + q) r < m := oftG_min 41 0 q (Nat.zero_le _) h
theorem need_one (r : Nat) : need 1 r = some 0 := rfl
/-- how far is best gone at first -/
def fsp (m r : Nat) : Nat := min (chN (r + oft m r - 1) r) (m - chN (r + oft m r - 2) (r - 1))
theorem split_tab : ∀ m, m < 41 → ∀ r, r < 41 → 2 ≤ m → 0 < r → 1 ≤ fsp m r ∧ fsp m r < m ∧ (match need (m - fsp m r) (r - 1), need (fsp m r) r, need m r with
  | some b, some c, some d => decide (fsp m r + b + c ≤ d)
  | _, _, _ => false) = true := by decide +kernel
theorem need_tab : ∀ m, m < 41 → ∀ r, r < 41 → 0 < m → (match need m r with
  | some x => decide (x ≤ 900)
  | none => decide (r = 0 ∧ m ≠ 1)) = true := by decide +kernel
theorem min_tab : ∀ m, m < 41 → ∀ r, r < 41 → 0 < r → ∀ f, f < m → 0 < f → (match need (m - f) (r - 1), need f r, need m r with
  | some b, some c, some d => decide (d ≤ f + b + c)
  | _, _, _ => true) = true := by decide +kernel
end K96

set_option Elab.async false
set_option linter.all false
set_option maxRecDepth 100000
set_option maxHeartbeats 4000000
set_option autoImplicit false
namespace K96
open PySem PySem.Spec L2 FL

/-! ### the checks -/
def noRef (v : U) : Prop := ∀ l, v ≠ .ref l
def tyU : U → String
  | .non => "NoneType" | .bl _ => "bool" | .int _ => "int" | .str _ => "str" | .tup _ => "tuple" | .rl _ => "list" | .wt _ => "tuple" | .ref _ => "list"
theorem tyN_of {G : Gp} {v : U} (h : noRef v) : tyN G v = some (tyU v) := by
  cases v <;> first | rfl | exact absurd rfl (h _)
def isI : U → Bool
  | .int _ => true
  | _ => false
def isIB : U → Bool
  | .int _ => true
  | .bl _ => true
  | _ => false
def isB : U → Bool
  | .bl _ => true
  | _ => false
theorem lkInt (v : U) : tbInt.lookup (tyU v) = some (isIB v) := by cases v <;> rfl
theorem lkBool (v : U) : tbBool.lookup (tyU v) = some (isB v) := by cases v <;> rfl
theorem is_integer_spec {v : U} (h : noRef v) (G : Gp) : F_is_integer [v] G = .ok (.bl (isI v)) G := by
  rw [run_is_integer]
  simp only [g_is_integer, sRet_, eAnd_, eNot_, eIs_, eVar_, List.getElem?_cons_zero, r_bind_ok, isRes_of (tyN_of h) (lkInt v), isRes_of (tyN_of h) (lkBool v), asB_ok]
  cases v <;> simp [isI, isIB, isB]
def inR (v : U) (lo up : Int) : Bool := match v with
  | .int i => decide (lo ≤ i) && decide (i ≤ up)
  | _ => false
theorem is_from_to_spec {v : U} (h : noRef v) (lo up : Int) (G : Gp) : F_is_from_to [v, .int lo, .int up] G = .ok (.bl (inR v lo up)) G := by
  rw [run_is_from_to]
  simp only [g_is_from_to, sRet_, eAnd_, eCall_, aCons_, aNil_, eVar_, List.getElem?_cons_zero, r_bind_ok, is_integer_spec h, asB_ok]
  cases v with
  | int i =>
    by_cases h1 : lo ≤ i
    · simp [isI, inR, h1]
    · simp [isI, inR, h1]
  | _ => simp [isI, inR]
theorem check_number_ok {v : U} (h : noRef v) {lo up : Int} (G : Gp) (hb : inR v lo up = true) : F_check_number [v, .int lo, .int up] G = .ok .non G := by
  rw [run_check_number]
  simp [g_check_number, is_from_to_spec h, hb]
theorem check_number_bad {v : U} (h : noRef v) {lo up : Int} (G : Gp) (hb : inR v lo up = false) : F_check_number [v, .int lo, .int up] G = .exc "InvalidNumber" [("number", v)] G := by
  rw [run_check_number]
  simp [g_check_number, is_from_to_spec h, hb, sRaise]
/-- the row's items, if it is a row -/
theorem noRef_int (i : Int) : noRef (.int i) := fun l h => nomatch h
def Ex0 (G G' : Gp) : Prop := G.length ≤ G'.length ∧ ∀ l, l < G.length → G'[l]? = G[l]?
theorem Ex0.refl (G : Gp) : Ex0 G G := ⟨Nat.le_refl _, fun _ _ => rfl⟩
theorem Ex0.trans {G G1 G2 : Gp} (a : Ex0 G G1) (b : Ex0 G1 G2) : Ex0 G G2 := ⟨Nat.le_trans a.1 b.1, fun l h => (b.2 l (Nat.lt_of_lt_of_le h a.1)).trans (a.2 l h)⟩
theorem ex0_push (G : Gp) (o : OU) : Ex0 G (G ++ [o]) := ⟨by simp, fun l h => List.getElem?_append_left h⟩
theorem ex0_set {G G' : Gp} (h : Ex0 G G') {l : Nat} (hl : G.length ≤ l) (o : OU) : Ex0 G (G'.set l o) := ⟨by simp [h.1], fun m h1 => by rw [List.getElem?_set_ne (by omega)]; exact h.2 m h1⟩
theorem Ex0.at_ {G G' : Gp} (h : Ex0 G G') {l : Nat} {o : OU} (e : G[l]? = some o) : G'[l]? = some o := (h.2 l (List.getElem?_eq_some_iff.mp e).1).trans e
def Ext (G G' : Gp) : Prop := G.length ≤ G'.length ∧ ∀ l, 2 < l → l < G.length → G'[l]? = G[l]?
theorem Ext.refl (G : Gp) : Ext G G := ⟨Nat.le_refl _, fun _ _ _ => rfl⟩
theorem Ext.trans {G G1 G2 : Gp} (a : Ext G G1) (b : Ext G1 G2) : Ext G G2 := ⟨Nat.le_trans a.1 b.1, fun l h1 h2 => (b.2 l h1 (Nat.lt_of_lt_of_le h2 a.1)).trans (a.2 l h1 h2)⟩
theorem Oth.ext {G G' : Gp} (h : Oth G G') : Ext G G' := ⟨Nat.le_of_eq h.1.symm, fun l h1 _ => h.2 l h1⟩
theorem Ext.at_ {G G' : Gp} (h : Ext G G') {l : Nat} {o : OU} (hp : 2 < l) (e : G[l]? = some o) : G'[l]? = some o := (h.2 l hp (List.getElem?_eq_some_iff.mp e).1).trans e
theorem Ex0.ext {G G' : Gp} (h : Ex0 G G') : Ext G G' := ⟨h.1, fun l _ h2 => h.2 l h2⟩
theorem Ex0.dr {G G' : Gp} (h : Ex0 G G') (d : Dr G) : Dr G' := by
  obtain ⟨a, b, cs, h1, h2, h3⟩ := d
  exact ⟨a, b, cs, h1, h.at_ h2, h.at_ h3⟩
theorem push_at (G : Gp) (o : OU) : (G ++ [o])[G.length]? = some o := by simp
theorem Dr.len {G : Gp} (h : Dr G) : 2 < G.length := by
  obtain ⟨a, b, cs, _, h2, _⟩ := h
  exact (List.getElem?_eq_some_iff.mp h2).1
end K96

set_option Elab.async false
set_option linter.all false
set_option maxRecDepth 100000
set_option maxHeartbeats 4000000
set_option autoImplicit false
namespace K96
open PySem PySem.Spec L2 FL
/-! ### steps needed: the program's, the law's -/
def optU : Option Nat → U
  | none => .non
  | some x => .int (x : Nat)
theorem comb_ok {n k : Nat} {a b : Int} {G : Gp} (ha : a = (n : Int)) (hb : b = (k : Int)) (hn : n < 82) (hk : k < 42) : bComb [.int a, .int b] G = .ok (.int (chN n k : Nat)) G := by
  rw [bComb_ii (by omega) (by omega) (by omega), ha, hb, mc_tab n hn k hk]
def EnvO (m r o : Int) : Ev := [some (.int m), some (.int r), some (.int o)]
theorem on_loop {m r : Nat} {mi ri : Int} {G : Gp} (m1 : 1 ≤ m) (m2 : m ≤ 40) (r1 : 1 ≤ r) (r2 : r ≤ 40) (hm : mi = (m : Int)) (hr : ri = (r : Int)) :
    whileN (bVal (eBin gLt (eCall bComb (aCons (eBin gAdd (eVar 1) (eVar 2)) (aCons (eVar 1) aNil))) (eVar 0))) (sAug 2 gAugAdd (eC (.int 1))) bigN (EnvO mi ri 0) G = .nx (EnvO mi ri (oft m r : Nat)) G := by
  obtain ⟨t1, t2, t3⟩ := oft_tab m (by omega) r (by omega) (by omega) (by omega)
  refine while_post (I := fun e G' => G' = G ∧ ∃ o : Nat, e = EnvO mi ri (o : Nat) ∧ o ≤ oft m r)
    (m := fun e _ => match e with
      | [_, _, some (.int o)] => (41 - o).toNat
      | _ => 0) (fun r' => r' = .nx (EnvO mi ri (oft m r : Nat)) G) ?_ bigN _ _ ⟨rfl, 0, rfl, Nat.zero_le _⟩ ?_
  · intro e G' hI
    obtain ⟨hG, o, he, ho⟩ := hI
    subst hG
    obtain ⟨oi, hoi⟩ : ∃ oi : Int, oi = (o : Int) := ⟨_, rfl⟩
    rw [← hoi] at he
    have cb := comb_ok (n := r + o) (k := r) (a := ri + oi) (b := ri) (G := G') (by omega) hr (by omega) (by omega)
    obtain ⟨ci, hci⟩ : ∃ ci : Int, ci = ((chN (r + o) r : Nat) : Int) := ⟨_, rfl⟩
    rw [← hci] at cb
    by_cases c : ci < mi
    · have hne : o ≠ oft m r := fun z => by rw [← z] at t2; omega
      refine ⟨true, G', ?_, fun _ => ?_, fun z => nomatch z⟩
      · subst he
        simp [EnvO, cb, c]
      · have st : sAug 2 gAugAdd (eC (.int 1)) e G' = .nx (EnvO mi ri (oi + 1)) G' := by
          subst he
          simp [EnvO]
        rw [st]
        refine ⟨⟨rfl, o + 1, ?_, by omega⟩, ?_⟩
        · rw [hoi]; rfl
        · subst he
          simp [EnvO]; omega
    · have e1 : o = oft m r := by
        apply Nat.le_antisymm ho
        apply Nat.le_of_not_gt
        intro z
        have := oft_min z
        omega
      refine ⟨false, G', ?_, (fun z => nomatch z), fun _ => ?_⟩
      · subst he
        simp [EnvO, cb, c]
      · rw [he, hoi, e1]
  · show (41 - (0 : Int)).toNat < bigN
    decide
theorem on_spec {m r : Nat} {mi ri : Int} (m1 : 1 ≤ m) (m2 : m ≤ 40) (r2 : r ≤ 40) (hm : mi = (m : Int)) (hr : ri = (r : Int)) (G : Gp) : F_on_needed [.int mi, .int ri] G = .ok (optU (need m r)) G := by
  rw [run_on_needed]
  by_cases c1 : m = 1
  · have e : mi = 1 := by omega
    subst c1
    subst e
    simp [g_on_needed, need_one, optU]
  · have e : ¬ mi = 1 := by omega
    by_cases c2 : r = 0
    · have e2 : ri = 0 := by omega
      have hn : need m r = none := by unfold need; rw [if_neg c1, if_pos c2]
      subst e2
      simp [g_on_needed, e, hn, optU]
    · have e2 : ¬ ri = 0 := by omega
      have hn : need m r = some (oft m r * m - chN (r + oft m r) (r + 1)) := by unfold need; rw [if_neg c1, if_neg c2]
      obtain ⟨t1, t2, t3⟩ := oft_tab m (by omega) r (by omega) (by omega) (by omega)
      have L := on_loop (G := G) m1 m2 (by omega) r2 hm hr
      obtain ⟨oi, hoi⟩ : ∃ oi : Int, oi = ((oft m r : Nat) : Int) := ⟨_, rfl⟩
      rw [← hoi] at L
      have cb := comb_ok (n := r + oft m r) (k := r + 1) (a := ri + oi) (b := ri + 1) (G := G) (by omega) (by omega) (by omega) (by omega)
      have mu : gMul (.int oi) (.int mi) G = .ok (.int (oi * mi)) G := gMul_ii (mulOk_small (by omega))
      have hv : oi * mi - ((chN (r + oft m r) (r + 1) : Nat) : Int) = ((oft m r * m - chN (r + oft m r) (r + 1) : Nat) : Int) := by
        rw [Int.ofNat_sub t3, hoi, hm, Int.natCast_mul]
      rw [hn]
      show _ = R.ok (U.int ((oft m r * m - chN (r + oft m r) (r + 1) : Nat) : Int)) G
      rw [← hv]
      generalize ((chN (r + oft m r) (r + 1) : Nat) : Int) = ci at cb
      unfold g_on_needed
      rw [seq_nx (e' := [some (.int mi), some (.int ri), none]) (G' := G) (by simp [e]), seq_nx (e' := [some (.int mi), some (.int ri), none]) (G' := G) (by simp [e2]), seq_nx (e' := EnvO mi ri 0) (G' := G) (by simp [EnvO]), seq_nx L]
      simp [EnvO, mu, cb]
def EnvC (n k t : Int) (i : Option U) : Ev := [some (.int n), some (.int k), some (.int t), i]
theorem choose_spec {n k : Nat} {ni ki : Int} (hn : ni = (n : Int)) (hk : ki = (k : Int)) (h1 : n < 1000000) (G : Gp) : F__law_choose [.int ni, .int ki] G = .ok (.int (chN n k : Nat)) G := by
  rw [run__law_choose]
  by_cases c : n < k
  · have e : ni < ki := by omega
    have hc : chN n k = 0 := by unfold chN; rw [if_pos c]
    rw [hc]
    simp [g__law_choose, e]
  · have e : ¬ ni < ki := by omega
    have hc : chN n k = prodL n (min k (n - k)) := by unfold chN; rw [if_neg c]
    rw [hc]
    obtain ⟨q, hq⟩ : ∃ q, q = min k (n - k) := ⟨_, rfl⟩
    have hqi : min ki (ni - ki) = (q : Int) := by omega
    have L : ∃ i, sFor (iOfs (aCons (eCall bMin2 (aCons (eVar 1) (aCons (eBin gSub (eVar 0) (eVar 1)) aNil))) aNil) kRng1) (gNm 3) g__law_choose_1 (EnvC ni ki 1 none) G = .nx (EnvC ni ki (prodL n q : Nat) i) G := by
      refine sFor_rng1 (j := min ki (ni - ki)) (G1 := G) (fun i e G' => G' = G ∧ ∃ x, e = EnvC ni ki (prodL n i : Nat) x) (fun r => ∃ i, r = .nx (EnvC ni ki (prodL n q : Nat) i) G) (by simp [EnvC]) (by omega) (by omega) ⟨rfl, none, rfl⟩ ?_ ?_
      · intro i hi e G' hI
        obtain ⟨hG, x, he⟩ := hI
        subst hG
        have hi' : i < q := by omega
        obtain ⟨ii, hii⟩ : ∃ ii : Int, ii = (i : Int) := ⟨_, rfl⟩
        obtain ⟨p, hp⟩ : ∃ p : Int, p = ((prodL n i : Nat) : Int) := ⟨_, rfl⟩
        have mu : gMul (.int p) (.int (ni - ii)) G' = .ok (.int (p * (ni - ii))) G' := gMul_ii (mulOk_small2 (by omega))
        have fd : gFdiv (.int (p * (ni - ii))) (.int (ii + 1)) G' = .ok (.int (p * (ni - ii) / (ii + 1))) G' := gFdiv_ii (by omega) (by omega)
        have hv : p * (ni - ii) / (ii + 1) = ((prodL n (i + 1) : Nat) : Int) := by
          show _ = ((prodL n i * (n - i) / (i + 1) : Nat) : Int)
          rw [hp, hn, hii, Int.natCast_ediv, Int.natCast_mul, Int.ofNat_sub (by omega)]
          rfl
        rw [← hii]
        rw [← hp] at he
        have fine : (gNm 3 (.int ii) e G').andThen e (fun env1 G1 => g__law_choose_1 env1 G1) = .nx (EnvC ni ki ((prodL n (i + 1) : Nat) : Int) (some (.int ii))) G' := by
          rw [← hv]
          subst he
          simp [EnvC, g__law_choose_1, mu, fd]
        rw [fine]
        exact ⟨rfl, _, rfl⟩
      · intro e G' hI
        obtain ⟨hG, x, he⟩ := hI
        subst hG
        subst he
        rw [show (min ki (ni - ki)).toNat = q by omega]
        exact ⟨x, rfl⟩
    obtain ⟨i, L⟩ := L
    rw [← hq]
    generalize ((prodL n q : Nat) : Int) = z at L ⊢
    unfold g__law_choose
    rw [seq_nx (e' := [some (.int ni), some (.int ki), none, none]) (G' := G) (by simp [e]), seq_nx (e' := EnvC ni ki 1 none) (G' := G) (by simp [EnvC]), seq_nx L]
    simp [EnvC]
def EnvL (m r t : Int) (i : Option U) : Ev := [some (.int m), some (.int r), some (.int t), i]
theorem least_spec {m r : Nat} {mi ri : Int} (m1 : 1 ≤ m) (m2 : m ≤ 40) (r2 : r ≤ 40) (hm : mi = (m : Int)) (hr : ri = (r : Int)) (G : Gp) : F__law_least [.int mi, .int ri] G = .ok (optU (need m r)) G := by
  rw [run__law_least]
  by_cases c1 : m = 1
  · have e : mi = 1 := by omega
    subst c1
    subst e
    simp [g__law_least, need_one, optU]
  · have e : ¬ mi = 1 := by omega
    by_cases c2 : r = 0
    · have e2 : ri = 0 := by omega
      have hn : need m r = none := by unfold need; rw [if_neg c1, if_pos c2]
      subst e2
      simp [g__law_least, e, hn, optU]
    · have e2 : ¬ ri = 0 := by omega
      have hn : need m r = some (oft m r * m - chN (r + oft m r) (r + 1)) := by unfold need; rw [if_neg c1, if_neg c2]
      obtain ⟨t1, t2, t3⟩ := oft_tab m (by omega) r (by omega) (by omega) (by omega)
      have L : ∃ i, sFor (iOfs (aCons (eC (.int 41)) aNil) kRng1) (gNm 3) g__law_least_1 (EnvL mi ri 0 none) G = .nx (EnvL mi ri (oft m r : Nat) i) G := by
        refine sFor_rng1 (j := 41) (G1 := G) (fun i e G' => G' = G ∧ i ≤ oft m r ∧ ∃ x, e = EnvL mi ri (i : Nat) x) (fun r' => ∃ i, r' = .nx (EnvL mi ri (oft m r : Nat) i) G) (by simp) (by decide) (by decide) ⟨rfl, Nat.zero_le _, none, rfl⟩ ?_ ?_
        · intro i hi e G' hI
          obtain ⟨hG, ho, x, he⟩ := hI
          subst hG
          obtain ⟨ii, hii⟩ : ∃ ii : Int, ii = (i : Int) := ⟨_, rfl⟩
          have cb := choose_spec (n := r + i) (k := r) (ni := ri + ii) (ki := ri) (by omega) hr (by omega) G'
          obtain ⟨ci, hci⟩ : ∃ ci : Int, ci = ((chN (r + i) r : Nat) : Int) := ⟨_, rfl⟩
          rw [← hci] at cb
          rw [← hii]
          by_cases c : mi ≤ ci
          · have e1 : i = oft m r := by
              apply Nat.le_antisymm ho
              apply Nat.le_of_not_gt
              intro z
              have := oft_min z
              omega
            have fine : (gNm 3 (.int ii) e G').andThen e (fun env1 G1 => g__law_least_1 env1 G1) = .brk (EnvL mi ri ii (some (.int ii))) G' := by
              rw [← hii] at he
              subst he
              simp [EnvL, g__law_least_1, cb, c]
            rw [fine, hii, e1]
            exact ⟨_, rfl⟩
          · have hne : i ≠ oft m r := fun z => by rw [← z] at t2; omega
            have fine : (gNm 3 (.int ii) e G').andThen e (fun env1 G1 => g__law_least_1 env1 G1) = .nx (EnvL mi ri (ii + 1) (some (.int ii))) G' := by
              rw [← hii] at he
              subst he
              simp [EnvL, g__law_least_1, cb, c]
            rw [fine]
            exact ⟨rfl, by omega, _, by rw [hii]; rfl⟩
        · intro e G' hI
          obtain ⟨hG, ho, x, he⟩ := hI
          have ho : 41 ≤ oft m r := ho
          omega
      obtain ⟨i, L⟩ := L
      obtain ⟨oi, hoi⟩ : ∃ oi : Int, oi = ((oft m r : Nat) : Int) := ⟨_, rfl⟩
      rw [← hoi] at L
      have cb := choose_spec (n := r + oft m r) (k := r + 1) (ni := ri + oi) (ki := ri + 1) (by omega) (by omega) (by omega) G
      have mu : gMul (.int oi) (.int mi) G = .ok (.int (oi * mi)) G := gMul_ii (mulOk_small (by omega))
      have hv : oi * mi - ((chN (r + oft m r) (r + 1) : Nat) : Int) = ((oft m r * m - chN (r + oft m r) (r + 1) : Nat) : Int) := by
        rw [Int.ofNat_sub t3, hoi, hm, Int.natCast_mul]
      rw [hn]
      show _ = R.ok (U.int ((oft m r * m - chN (r + oft m r) (r + 1) : Nat) : Int)) G
      rw [← hv]
      generalize ((chN (r + oft m r) (r + 1) : Nat) : Int) = ci at cb
      unfold g__law_least
      rw [seq_nx (e' := [some (.int mi), some (.int ri), none, none]) (G' := G) (by simp [e]), seq_nx (e' := [some (.int mi), some (.int ri), none, none]) (G' := G) (by simp [e2]), seq_nx (e' := EnvL mi ri 0 none) (G' := G) (by simp [EnvL]), seq_nx L]
      simp [EnvL, mu, cb]
end K96

set_option Elab.async false
set_option linter.all false
set_option maxRecDepth 100000
set_option maxHeartbeats 4000000
set_option autoImplicit false
namespace K96
open PySem PySem.Spec L2 FL
theorem inR_int {i lo up : Int} (h1 : lo ≤ i) (h2 : i ≤ up) : inR (.int i) lo up = true := by simp [inR]; omega
/-! ### walks: deeds, and the judge -/
inductive Dd where
  | on | keep | back | take (i : Nat) | drop (i : Nat)
def dU : Dd → U
  | .on => .wt [.str "on"]
  | .keep => .wt [.str "keep"]
  | .back => .wt [.str "back"]
  | .take i => .tup [.str "take", .int (i : Nat)]
  | .drop i => .tup [.str "drop", .int (i : Nat)]
structure J where
  at_ : Nat
  left : Nat
  steps : Nat
  ks : List Nat
def stepJ (N R : Nat) (j : J) : Dd → Option J
  | .on => if j.at_ + 1 < N then some ⟨j.at_ + 1, j.left, j.steps + 1, j.ks⟩ else none
  | .keep => if j.at_ ∉ j.ks ∧ j.ks.length < R then some ⟨j.at_, j.left, j.steps, j.ks ++ [j.at_]⟩ else none
  | .back => if j.left = j.at_ + 1 then some ⟨j.at_, j.at_, j.steps, j.ks⟩ else none
  | .take i => if i ∈ j.ks then some ⟨i, j.left, j.steps, j.ks⟩ else none
  | .drop i => if i ∈ j.ks then some ⟨j.at_, j.left, j.steps, j.ks.filter (fun y => decide (y ≠ i))⟩ else none
def runJ (N R : Nat) : List Dd → J → Option J
  | [], j => some j
  | d :: ds, j => (stepJ N R j d).bind (runJ N R ds)
theorem runJ_app (N R : Nat) : ∀ (xs ys : List Dd) (j : J), runJ N R (xs ++ ys) j = (runJ N R xs j).bind (runJ N R ys)
  | [], ys, j => rfl
  | x :: xs, ys, j => by
    show (stepJ N R j x).bind (runJ N R (xs ++ ys)) = ((stepJ N R j x).bind (runJ N R xs)).bind (runJ N R ys)
    cases stepJ N R j x with
    | none => rfl
    | some j' => exact runJ_app N R xs ys j'
theorem runJ_ons (N R : Nat) : ∀ (f a l s : Nat) (ks : List Nat), a + f < N → runJ N R (List.replicate f .on) ⟨a, l, s, ks⟩ = some ⟨a + f, l, s + f, ks⟩
  | 0, a, l, s, ks, h => rfl
  | f + 1, a, l, s, ks, h => by
    rw [List.replicate_succ]
    show (if a + 1 < N then some (⟨a + 1, l, s + 1, ks⟩ : J) else none).bind _ = _
    rw [if_pos (by omega)]
    show runJ N R (List.replicate f .on) ⟨a + 1, l, s + 1, ks⟩ = _
    rw [runJ_ons N R f (a + 1) l (s + 1) ks (by omega), show a + 1 + f = a + (f + 1) by omega, show s + 1 + f = s + (f + 1) by omega]
/-- from a stand back over the steps behind it -/
def Good (m r : Nat) (k : Bool) (stand c : Nat) (ds : List Dd) : Prop := ∀ (N R st : Nat) (ks : List Nat), (k = true → stand ∈ ks ∧ ks.length + r ≤ R + 1) → (k = false → stand ∉ ks ∧ ks.length + r ≤ R) → (∀ y ∈ ks, y ≤ stand) → stand + m ≤ N →
  runJ N R ds ⟨stand, stand + m, st, ks⟩ = some ⟨stand, stand, st + c, ks⟩
theorem good_one {r : Nat} {k : Bool} {stand : Nat} : Good 1 r k stand 0 [.back] := fun N R st ks _ _ _ _ => by
  show (if stand + 1 = stand + 1 then some (⟨stand, stand, st, ks⟩ : J) else none).bind _ = _
  rw [if_pos rfl]
  rfl
def kp (k : Bool) (d : Dd) : List Dd := if k = true then [] else [d]
theorem good_split {m r f c1 c2 stand : Nat} {k : Bool} {d1 d2 : List Dd} (hr : 1 ≤ r) (f1 : 1 ≤ f) (f2 : f < m) (g1 : Good (m - f) (r - 1) false (stand + f) c1 d1) (g2 : Good f r true stand c2 d2) :
    Good m r k stand (f + c1 + c2) (kp k .keep ++ (List.replicate f .on ++ (d1 ++ ([.take stand] ++ (d2 ++ kp k (.drop stand)))))) := by
  intro N R st ks hk1 hk0 hle hN
  obtain ⟨ks', hks', e1, hin, hlen, hle'⟩ : ∃ ks' : List Nat, ks' = (if k = true then ks else ks ++ [stand]) ∧ runJ N R (kp k .keep) ⟨stand, stand + m, st, ks⟩ = some ⟨stand, stand + m, st, ks'⟩ ∧ stand ∈ ks' ∧ ks'.length + r ≤ R + 1 ∧ ∀ y ∈ ks', y ≤ stand := by
    cases k with
    | true => exact ⟨ks, rfl, rfl, (hk1 rfl).1, (hk1 rfl).2, hle⟩
    | false =>
      obtain ⟨h1, h2⟩ := hk0 rfl
      refine ⟨ks ++ [stand], rfl, ?_, by simp, by simp; omega, fun y hy => ?_⟩
      · show (if stand ∉ ks ∧ ks.length < R then some (⟨stand, stand + m, st, ks ++ [stand]⟩ : J) else none).bind _ = _
        rw [if_pos ⟨h1, by omega⟩]
        rfl
      · rcases List.mem_append.mp hy with hy | hy
        · exact hle y hy
        · rw [List.mem_singleton] at hy; omega
  rw [runJ_app, e1, Option.bind_some, runJ_app, runJ_ons N R f stand _ _ _ (by omega), Option.bind_some, runJ_app]
  have e3 := g1 N R (st + f) ks' (fun z => nomatch z) (fun _ => ⟨fun z => by have := hle' _ z; omega, by omega⟩) (fun y hy => by have := hle' y hy; omega) (by omega)
  rw [show stand + f + (m - f) = stand + m by omega] at e3
  rw [e3, Option.bind_some, runJ_app]
  have e4 : runJ N R [.take stand] ⟨stand + f, stand + f, st + f + c1, ks'⟩ = some ⟨stand, stand + f, st + f + c1, ks'⟩ := by
    show (if stand ∈ ks' then some (⟨stand, stand + f, st + f + c1, ks'⟩ : J) else none).bind _ = _
    rw [if_pos hin]
    rfl
  rw [e4, Option.bind_some, runJ_app]
  have e5 := g2 N R (st + f + c1) ks' (fun _ => ⟨hin, hlen⟩) (fun z => nomatch z) hle' (by omega)
  rw [e5, Option.bind_some]
  have hc : st + f + c1 + c2 = st + (f + c1 + c2) := by omega
  rw [hc]
  cases k with
  | true =>
    rw [hks', if_pos rfl]
    rfl
  | false =>
    rw [hks', if_neg (by decide)]
    obtain ⟨h1, _⟩ := hk0 rfl
    show (if stand ∈ ks ++ [stand] then some (⟨stand, stand, st + (f + c1 + c2), (ks ++ [stand]).filter (fun y => decide (y ≠ stand))⟩ : J) else none).bind _ = _
    rw [if_pos (by simp)]
    have e : (ks ++ [stand]).filter (fun y => decide (y ≠ stand)) = ks := by
      have e0 : ks.filter (fun y => decide (y ≠ stand)) = ks := List.filter_eq_self.mpr fun y hy => decide_eq_true (fun (z : y = stand) => h1 (by rw [← z]; exact hy))
      rw [List.filter_append, e0]
      simp
    rw [e]
    rfl
/-! ### the first stretch -/
def costO (m r f : Nat) : Option Nat := match need (m - f) (r - 1), need f r with
  | some b, some c => some (f + b + c)
  | _, _ => none
def EnvF (m r : Int) (b f i e c : Option U) : Ev := [some (.int m), some (.int r), b, f, i, e, c]
/-- the best so far -/
def BF (m r i : Nat) (b f : Option U) : Prop := (b = some .non ∧ f = some .non ∧ ∀ j, j < i → costO m r (1 + j) = none) ∨
  ∃ j c : Nat, j < i ∧ costO m r (1 + j) = some c ∧ b = some (.int (c : Nat)) ∧ f = some (.int ((1 + j : Nat) : Int)) ∧ ∀ q, q < i → ∀ c', costO m r (1 + q) = some c' → c ≤ c'
theorem need_some {m r : Nat} (hr : 1 ≤ r) : ∃ x, need m r = some x := by
  unfold need
  by_cases c : m = 1
  · exact ⟨0, by rw [if_pos c]⟩
  · exact ⟨_, by rw [if_neg c, if_neg (by omega)]⟩
theorem best_spec {m r : Nat} {mi ri : Int} (m1 : 2 ≤ m) (m2 : m ≤ 40) (r1 : 1 ≤ r) (r2 : r ≤ 40) (hm : mi = (m : Int)) (hr : ri = (r : Int)) (G : Gp) :
    ∃ f b c d : Nat, F_best_first [.int mi, .int ri] G = .ok (.int (f : Nat)) G ∧ 1 ≤ f ∧ f < m ∧ need (m - f) (r - 1) = some b ∧ need f r = some c ∧ need m r = some d ∧ f + b + c = d := by
  have L : ∃ b f i e c, sFor (iOfs (aCons (eC (.int 1)) (aCons (eVar 0) aNil)) kRng2) (gNm 4) g_best_first_1 (EnvF mi ri (some .non) (some .non) none none none) G = .nx (EnvF mi ri b f i e c) G ∧ BF m r (m - 1) b f := by
    refine sFor_rng2 (a := 1) (j := mi) (G1 := G) (fun i e G' => G' = G ∧ ∃ b f x y z, e = EnvF mi ri b f x y z ∧ BF m r i b f) (fun r' => ∃ b f i e c, r' = .nx (EnvF mi ri b f i e c) G ∧ BF m r (m - 1) b f) (by simp [EnvF]) (by decide) (by decide) (by omega) (by omega) ⟨rfl, _, _, _, _, _, rfl, .inl ⟨rfl, rfl, fun j hj => by omega⟩⟩ ?_ ?_
    · intro i hi e G' hI
      obtain ⟨hG, b, f, x, y, z, he, hB⟩ := hI
      subst hG
      have hi' : i < m - 1 := by omega
      obtain ⟨fi, hfi⟩ : ∃ fi : Int, fi = 1 + (i : Int) := ⟨_, rfl⟩
      rw [← hfi]
      have o1 := on_spec (m := m - (1 + i)) (r := r - 1) (mi := mi - fi) (ri := ri - 1) (by omega) (by omega) (by omega) (by omega) (by omega) G'
      have o2 := on_spec (m := 1 + i) (r := r) (mi := fi) (ri := ri) (by omega) (by omega) r2 (by omega) hr G'
      obtain ⟨c2, hc2⟩ := need_some (m := 1 + i) r1
      rw [hc2] at o2
      have o2 : F_on_needed [.int fi, .int ri] G' = .ok (.int (c2 : Nat)) G' := o2
      cases q : need (m - (1 + i)) (r - 1) with
      | none =>
        rw [q] at o1
        have o1 : F_on_needed [.int (mi - fi), .int (ri - 1)] G' = .ok .non G' := o1
        have hc : costO m r (1 + i) = none := by unfold costO; rw [q]
        have fine : (gNm 4 (.int fi) e G').andThen e (fun env1 G1 => g_best_first_1 env1 G1) = .ct (EnvF mi ri b f (some (.int fi)) (some .non) z) G' := by
          subst he
          simp [EnvF, g_best_first_1, o1]
        rw [fine]
        refine ⟨rfl, _, _, _, _, _, rfl, ?_⟩
        rcases hB with ⟨h1, h2, h3⟩ | ⟨j, c, h1, h2, h3, h4, h5⟩
        · refine .inl ⟨h1, h2, fun j hj => ?_⟩
          by_cases cj : j = i
          · subst cj; exact hc
          · exact h3 j (by omega)
        · refine .inr ⟨j, c, by omega, h2, h3, h4, fun q hq c' hc' => ?_⟩
          by_cases cj : q = i
          · subst cj; rw [hc] at hc'; exact nomatch hc'
          · exact h5 q (by omega) c' hc'
      | some b1 =>
        rw [q] at o1
        have o1 : F_on_needed [.int (mi - fi), .int (ri - 1)] G' = .ok (.int (b1 : Nat)) G' := o1
        have hc : costO m r (1 + i) = some (1 + i + b1 + c2) := by unfold costO; rw [q, hc2]
        obtain ⟨ct, hct⟩ : ∃ ct : Int, ct = fi + (b1 : Int) + (c2 : Int) := ⟨_, rfl⟩
        have hcn : ct = ((1 + i + b1 + c2 : Nat) : Int) := by omega
        have hfn : fi = ((1 + i : Nat) : Int) := by omega
        have new : (∀ q, q < i → ∀ c', costO m r (1 + q) = some c' → 1 + i + b1 + c2 ≤ c') → BF m r (i + 1) (some (.int ct)) (some (.int fi)) := fun h => by
          refine .inr ⟨i, 1 + i + b1 + c2, by omega, hc, by rw [hcn], by rw [hfn], fun q hq c' hc' => ?_⟩
          by_cases cj : q = i
          · subst cj; rw [hc] at hc'; cases hc'; omega
          · exact h q (by omega) c' hc'
        obtain ⟨b1i, hb1⟩ : ∃ b1i : Int, b1i = (b1 : Int) := ⟨_, rfl⟩
        obtain ⟨c2i, hc2i⟩ : ∃ c2i : Int, c2i = (c2 : Int) := ⟨_, rfl⟩
        rw [← hb1] at o1 hct
        rw [← hc2i] at o2 hct
        rcases hB with ⟨h1, h2, h3⟩ | ⟨j, c, h1, h2, h3, h4, h5⟩
        · have fine : (gNm 4 (.int fi) e G').andThen e (fun env1 G1 => g_best_first_1 env1 G1) = .nx (EnvF mi ri (some (.int ct)) (some (.int fi)) (some (.int fi)) (some (.int b1i)) (some (.int ct))) G' := by
            rw [hct]
            subst he
            subst h1
            simp [EnvF, g_best_first_1, o1, o2]
          rw [fine]
          exact ⟨rfl, _, _, _, _, _, rfl, new fun q hq c' hc' => by rw [h3 q hq] at hc'; exact nomatch hc'⟩
        · obtain ⟨ci, hci⟩ : ∃ ci : Int, ci = (c : Int) := ⟨_, rfl⟩
          rw [← hci] at h3
          by_cases cc : ct < ci
          · have fine : (gNm 4 (.int fi) e G').andThen e (fun env1 G1 => g_best_first_1 env1 G1) = .nx (EnvF mi ri (some (.int ct)) (some (.int fi)) (some (.int fi)) (some (.int b1i)) (some (.int ct))) G' := by
              rw [hct] at cc ⊢
              subst he
              subst h3
              simp [EnvF, g_best_first_1, o1, o2, cc]
            rw [fine]
            exact ⟨rfl, _, _, _, _, _, rfl, new fun q hq c' hc' => by have := h5 q hq c' hc'; omega⟩
          · have fine : (gNm 4 (.int fi) e G').andThen e (fun env1 G1 => g_best_first_1 env1 G1) = .nx (EnvF mi ri b f (some (.int fi)) (some (.int b1i)) (some (.int ct))) G' := by
              rw [hct] at cc ⊢
              subst he
              subst h3
              simp [EnvF, g_best_first_1, o1, o2, cc]
            rw [fine]
            refine ⟨rfl, _, _, _, _, _, rfl, .inr ⟨j, c, by omega, h2, by rw [h3, hci], h4, fun q hq c' hc' => ?_⟩⟩
            by_cases cj : q = i
            · subst cj; rw [hc] at hc'; cases hc'; omega
            · exact h5 q (by omega) c' hc'
    · intro e G' hI
      obtain ⟨hG, b, f, x, y, z, he, hB⟩ := hI
      subst hG
      subst he
      rw [show (mi - 1).toNat = m - 1 by omega] at hB
      exact ⟨_, _, _, _, _, rfl, hB⟩
  obtain ⟨b, f, i, e, c, L, hB⟩ := L
  obtain ⟨s1, s2, s3⟩ := split_tab m (by omega) r (by omega) m1 (by omega)
  obtain ⟨d, hd⟩ := need_some (m := m) r1
  have hfs : ∃ c0, costO m r (fsp m r) = some c0 ∧ c0 ≤ d := by
    unfold costO
    rw [hd] at s3
    cases q1 : need (m - fsp m r) (r - 1) with
    | none => rw [q1] at s3; exact nomatch s3
    | some b1 =>
      cases q2 : need (fsp m r) r with
      | none => rw [q1, q2] at s3; exact nomatch s3
      | some c1 =>
        rw [q1, q2] at s3
        exact ⟨_, rfl, of_decide_eq_true s3⟩
  obtain ⟨c0, hc0, hcd⟩ := hfs
  have hfe : 1 + (fsp m r - 1) = fsp m r := by omega
  rcases hB with ⟨h1, h2, h3⟩ | ⟨j, cj, h1, h2, h3, h4, h5⟩
  · have := h3 (fsp m r - 1) (by omega)
    rw [hfe, hc0] at this
    exact nomatch this
  · have hle := h5 (fsp m r - 1) (by omega) c0 (by rw [hfe]; exact hc0)
    unfold costO at h2
    cases q1 : need (m - (1 + j)) (r - 1) with
    | none => rw [q1] at h2; exact nomatch h2
    | some b1 =>
      cases q2 : need (1 + j) r with
      | none => rw [q1, q2] at h2; exact nomatch h2
      | some c1 =>
        rw [q1, q2] at h2
        cases h2
        have hmin := min_tab m (by omega) r (by omega) (by omega) (1 + j) (by omega) (by omega)
        rw [q1, q2, hd] at hmin
        have hmin := of_decide_eq_true hmin
        refine ⟨1 + j, b1, c1, d, ?_, by omega, by omega, q1, q2, hd, by omega⟩
        rw [run_best_first]
        unfold g_best_first
        rw [seq_nx (e' := [some (.int mi), some (.int ri), some .non, none, none, none, none]) (G' := G) (by simp), seq_nx (e' := EnvF mi ri (some .non) (some .non) none none none) (G' := G) (by simp [EnvF]), seq_nx L]
        subst h4
        generalize ((1 + j : Nat) : Int) = z
        simp [EnvF]
end K96

set_option Elab.async false
set_option linter.all false
set_option maxRecDepth 100000
set_option maxHeartbeats 4000000
set_option autoImplicit false
namespace K96
open PySem PySem.Spec L2 FL
/-! ### the program's deeds -/
def EnvS (s m r : Int) (k : Bool) (f : Option U) (x : Option U) : Ev := [some (.int s), some (.int m), some (.int r), some (.bl k), f, x]
theorem ext_list {G0 G : Gp} {L p : Nat} {xs ys : List Dd} (x : Ex0 G0 G) (hL : G0.length ≤ L) (h : G[L]? = some (.lst (xs.map dU))) (h2 : G[p]? = some (.lst (ys.map dU))) (hl : xs.length + ys.length ≤ 16777216) :
    ∃ G', mExtend (.ref L) [.ref p] G = .ok .non G' ∧ Ex0 G0 G' ∧ G'[L]? = some (.lst ((xs ++ ys).map dU)) := by
  refine ⟨_, mExtend_ref h h2 (by simpa using hl), ex0_set x hL _, ?_⟩
  rw [List.map_append]
  exact set_get h
theorem app_list {G0 G : Gp} {L : Nat} {xs : List Dd} {d : Dd} (x : Ex0 G0 G) (hL : G0.length ≤ L) (h : G[L]? = some (.lst (xs.map dU))) (hl : xs.length < 16777216) :
    ∃ G', mAppend (.ref L) [dU d] G = .ok .non G' ∧ Ex0 G0 G' ∧ G'[L]? = some (.lst ((xs ++ [d]).map dU)) := by
  refine ⟨_, mAppend_ref h (by simpa using hl), ex0_set x hL _, ?_⟩
  rw [List.map_append]
  exact set_get h
theorem flat_rep (u : U) : ∀ n, (List.replicate n [u]).flatten = List.replicate n u
  | 0 => rfl
  | n + 1 => by rw [List.replicate_succ, List.replicate_succ, List.flatten_cons, flat_rep u n]; rfl
theorem need_le {m r x : Nat} (m1 : 1 ≤ m) (m2 : m ≤ 40) (r2 : r ≤ 40) (h : need m r = some x) : x ≤ 900 := by
  have t := need_tab m (by omega) r (by omega) (by omega)
  rw [h] at t
  exact of_decide_eq_true t
theorem deeds_spec : ∀ (d m r stand : Nat) (k : Bool) (x : Nat) (mi ri si : Int) (G : Gp), 1 ≤ m → m ≤ d → m ≤ 40 → r ≤ 40 → need m r = some x → mi = (m : Int) → ri = (r : Int) → si = (stand : Int) →
    ∃ (l c : Nat) (ds : List Dd) (G' : Gp), F_deeds_from d [.int si, .int mi, .int ri, .bl k] G = .ok (.ref l) G' ∧ Ex0 G G' ∧ G'[l]? = some (.lst (ds.map dU)) ∧ c = x ∧ ds.length + 3 ≤ c + 4 * m ∧ Good m r k stand c ds := by
  intro d
  induction d with
  | zero => intro m r stand k x mi ri si G h1 h2; omega
  | succ d ih =>
    intro m r stand k x mi ri si G m1 md m2 r2 hx hm hr hs
    rw [run_deeds_from]
    by_cases c1 : m = 1
    · have e : mi = 1 := by omega
      subst c1
      subst e
      rw [need_one] at hx
      cases hx
      refine ⟨G.length, 0, [.back], G ++ [.lst [dU .back]], ?_, ex0_push _ _, push_at _ _, rfl, by simp, good_one⟩
      simp [g_deeds_from, dU]
    · have e : ¬ mi = 1 := by omega
      have r1 : 1 ≤ r := by
        apply Nat.pos_of_ne_zero
        intro z
        unfold need at hx
        rw [if_neg c1, if_pos z] at hx
        exact nomatch hx
      have nl := need_le m1 m2 r2 hx
      obtain ⟨L, hL⟩ : ∃ L, L = G.length := ⟨_, rfl⟩
      have hLl : G.length ≤ L := by omega
      obtain ⟨G1, hG1⟩ : ∃ G1, G1 = G ++ [OU.lst []] := ⟨_, rfl⟩
      have x1 : Ex0 G G1 := by rw [hG1]; exact ex0_push _ _
      have a1 : G1[L]? = some (.lst (([] : List Dd).map dU)) := by rw [hG1, hL]; exact push_at _ _
      -- keep
      obtain ⟨G2, s2, x2, a2⟩ : ∃ G2, sIf (tNotB (bVal (eVar 3))) (g_deeds_from_1 (F_deeds_from d)) sNil (EnvS si mi ri k (some (.ref L)) none) G1 = .nx (EnvS si mi ri k (some (.ref L)) none) G2 ∧ Ex0 G G2 ∧ G2[L]? = some (.lst ((kp k .keep).map dU)) := by
        cases k with
        | true => exact ⟨G1, by simp [EnvS], x1, a1⟩
        | false =>
          obtain ⟨G2, e2, x2, a2⟩ := app_list (d := .keep) x1 hLl a1 (by decide)
          have il := isLst_ref a1
          have e2 : mAppend (.ref L) [.wt [.str "keep"]] G1 = .ok .non G2 := e2
          exact ⟨G2, by simp [EnvS, g_deeds_from_1, eMeth_, il, e2], x2, a2⟩
      have kl : (kp k .keep).length ≤ 1 := by cases k <;> simp [kp]
      -- first
      obtain ⟨f', b', c', dd', eb2, f1', f2', n1', n2', n3', hle'⟩ := best_spec (m := m) (r := r) (mi := mi) (ri := ri) (by omega) m2 r1 r2 hm hr G2
      rw [hx] at n3'
      cases n3'
      obtain ⟨fi, hfi⟩ : ∃ fi : Int, fi = (f' : Int) := ⟨_, rfl⟩
      rw [← hfi] at eb2
      -- the steps on
      obtain ⟨G3, hG3⟩ : ∃ G3, G3 = G2 ++ [OU.lst [dU .on]] := ⟨_, rfl⟩
      obtain ⟨G4, hG4⟩ : ∃ G4, G4 = G3 ++ [OU.lst ((List.replicate f' Dd.on).map dU)] := ⟨_, rfl⟩
      have x23 : Ex0 G2 G3 := by rw [hG3]; exact ex0_push _ _
      have x34 : Ex0 G3 G4 := by rw [hG4]; exact ex0_push _ _
      have a3 : G3[G2.length]? = some (.lst [dU .on]) := by rw [hG3]; exact push_at _ _
      have a4 : G4[G3.length]? = some (.lst ((List.replicate f' Dd.on).map dU)) := by rw [hG4]; exact push_at _ _
      have mu : gMul (.ref G2.length) (.int fi) G3 = .ok (.ref G3.length) G4 := by
        unfold gMul
        simp only [a3]
        have e63 : (2 : Int) ^ 63 = 9223372036854775808 := by decide
        rw [if_pos ⟨by rw [e63]; omega, by rw [e63]; omega, by simp; omega⟩, hG4]
        congr 3
        rw [show fi.toNat = f' by omega, List.map_replicate]
        exact congrArg OU.lst (flat_rep _ _)
      obtain ⟨G5, e5, x5, a5⟩ := ext_list (x2.trans (x23.trans x34)) hLl ((x23.trans x34).at_ a2) a4 (by simp; omega)
      have il2 := isLst_ref a2
      -- behind
      obtain ⟨l6, c6, d6, G6, e6, x6, a6, hc6, hl6, g6⟩ := ih (m - f') (r - 1) (stand + f') false b' (mi - fi) (ri - 1) (si + fi) G5 (by omega) (by omega) (by omega) (by omega) n1' (by omega) (by omega) (by omega)
      obtain ⟨G7, e7, x7, a7⟩ := ext_list (x5.trans x6) hLl (x6.at_ a5) a6 (by simp; omega)
      have il5 := isLst_ref a5
      -- take
      obtain ⟨G8, e8, x8, a8⟩ := app_list (d := .take stand) x7 hLl a7 (by simp; omega)
      have il7 := isLst_ref a7
      have e8 : mAppend (.ref L) [.tup [.str "take", .int (stand : Nat)]] G7 = .ok .non G8 := e8
      rw [← hs] at e8
      -- the first ones
      obtain ⟨l9, c9, d9, G9, e9, x9, a9, hc9, hl9, g9⟩ := ih f' r stand true c' fi ri si G8 (by omega) (by omega) (by omega) (by omega) n2' hfi hr hs
      obtain ⟨G10, e10, x10, a10⟩ := ext_list (x8.trans x9) hLl (x9.at_ a8) a9 (by simp; omega)
      have il8 := isLst_ref a8
      -- drop
      have il10 := isLst_ref a10
      obtain ⟨G11, s11, x11, a11⟩ : ∃ G11, sIf (tNotB (bVal (eVar 3))) (g_deeds_from_2 (F_deeds_from d)) sNil (EnvS si mi ri k (some (.ref L)) (some (.int fi))) G10 = .nx (EnvS si mi ri k (some (.ref L)) (some (.int fi))) G11 ∧ Ex0 G G11 ∧ G11[L]? = some (.lst ((kp k Dd.keep ++ (List.replicate f' Dd.on ++ (d6 ++ ([Dd.take stand] ++ (d9 ++ kp k (Dd.drop stand)))))).map dU)) := by
        cases k with
        | true => exact ⟨G10, by simp [EnvS], x10, by rw [a10]; simp [kp]⟩
        | false =>
          obtain ⟨G11, e11, x11, a11⟩ := app_list (d := .drop stand) x10 hLl a10 (by simp [kp]; omega)
          have e11 : mAppend (.ref L) [.tup [.str "drop", .int (stand : Nat)]] G10 = .ok .non G11 := e11
          rw [← hs] at e11
          exact ⟨G11, by simp [EnvS, g_deeds_from_2, eMeth_, il10, e11], x11, by rw [a11]; simp [kp]⟩
      have kl2 : (kp k (.drop stand)).length ≤ 1 := by cases k <;> simp [kp]
      refine ⟨L, f' + c6 + c9, _, G11, ?_, x11, a11, by omega, by simp; omega, good_split r1 f1' f2' g6 g9⟩
      unfold g_deeds_from
      rw [seq_nx (e' := EnvS si mi ri k none none) (G' := G) (by simp [EnvS, e]), seq_nx (e' := EnvS si mi ri k (some (.ref L)) none) (G' := G1) (by simp [EnvS, hL, hG1]), seq_nx s2, seq_nx (e' := EnvS si mi ri k (some (.ref L)) (some (.int fi))) (G' := G2) (by simp [EnvS, eb2])]
      have on3 : G2 ++ [OU.lst [.wt [.str "on"]]] = G3 := by rw [hG3]; rfl
      rw [seq_nx (e' := EnvS si mi ri k (some (.ref L)) (some (.int fi))) (G' := G5) (by simp [EnvS, eMeth_, il2, on3, mu, e5]), seq_nx (e' := EnvS si mi ri k (some (.ref L)) (some (.int fi))) (G' := G7) (by simp [EnvS, eMeth_, il5, e6, e7]),
        seq_nx (e' := EnvS si mi ri k (some (.ref L)) (some (.int fi))) (G' := G8) (by simp [EnvS, eMeth_, il7, e8]), seq_nx (e' := EnvS si mi ri k (some (.ref L)) (some (.int fi))) (G' := G10) (by simp [EnvS, eMeth_, il8, e9, e10]), seq_nx s11]
      simp [EnvS]
end K96

set_option Elab.async false
set_option linter.all false
set_option maxRecDepth 100000
set_option maxHeartbeats 4000000
set_option autoImplicit false
namespace K96
open PySem PySem.Spec L2 FL
/-! ### the law's judge -/
def kvs (ks : List Nat) : List (U × U) := ks.map fun k => (.int (k : Nat), .bl true)
theorem kvs_len (ks : List Nat) : (kvs ks).length = ks.length := by simp [kvs]
theorem keyEq_nat (a b : Nat) : keyEq (.int (a : Nat)) (.int (b : Nat)) = decide (a = b) := by
  show decide ((a : Int) = (b : Int)) = _
  by_cases c : a = b
  · rw [decide_eq_true c, decide_eq_true (by omega)]
  · rw [decide_eq_false c, decide_eq_false (by omega)]
theorem kvs_any (a : Nat) : ∀ ks : List Nat, ((kvs ks).any fun p => keyEq p.1 (.int (a : Nat))) = decide (a ∈ ks)
  | [] => rfl
  | k :: ks => by
    have ih := kvs_any a ks
    unfold kvs at ih ⊢
    rw [List.map_cons, List.any_cons, ih, keyEq_nat]
    by_cases c : k = a
    · subst c; simp
    · have : ¬ a = k := fun z => c z.symm
      simp [c, this]
theorem kvs_get (a : Nat) : ∀ ks : List Nat, dGet (kvs ks) (.int (a : Nat)) = if a ∈ ks then some (.bl true) else none
  | [] => rfl
  | k :: ks => by
    have ih := kvs_get a ks
    unfold dGet kvs at ih ⊢
    rw [List.map_cons, List.find?_cons, keyEq_nat]
    by_cases c : k = a
    · subst c; simp
    · have : ¬ a = k := fun z => c z.symm
      rw [decide_eq_false c]
      simp only [List.mem_cons, this, false_or]
      exact ih
theorem kvs_put {a : Nat} {ks : List Nat} (h : a ∉ ks) : dPut (kvs ks) (.int (a : Nat)) (.bl true) = kvs (ks ++ [a]) := by
  unfold dPut
  rw [kvs_any, if_neg (by simpa using h)]
  simp [kvs]
theorem kvs_drop (a : Nat) : ∀ ks : List Nat, dDrop (kvs ks) (.int (a : Nat)) = kvs (ks.filter fun y => decide (y ≠ a))
  | [] => rfl
  | k :: ks => by
    have ih := kvs_drop a ks
    unfold dDrop kvs at ih ⊢
    rw [List.map_cons]
    by_cases c : k = a
    · rw [List.filter_cons_of_neg (by rw [keyEq_nat]; simpa using c), List.filter_cons_of_neg (by simpa using c)]
      exact ih
    · rw [List.filter_cons_of_pos (by rw [keyEq_nat]; simpa using c), List.filter_cons_of_pos (by simpa using c), List.map_cons, ih]
theorem shaped1 {x : Str} (h : PyData.strOk x = true) : SeqAt.shaped (.tuple [.str x]) = true := by
  unfold SeqAt.shaped
  simp [PyData.canLay0, PyData.canLayAll0, PyData.depth, PyData.depthAll, h]
theorem shaped2 {x : Str} (h : PyData.strOk x = true) (i : Int) : SeqAt.shaped (.tuple [.str x, .int i]) = true := by
  unfold SeqAt.shaped
  simp [PyData.canLay0, PyData.canLayAll0, PyData.depth, PyData.depthAll, h]
theorem eqT (x y : Str) (G : Gp) (hx : PyData.strOk x = true := by decide +kernel) (hy : PyData.strOk y = true := by decide +kernel) : FL.eqU G (.wt [.str x]) (.tup [.str y]) = some (decide (x = y)) := by
  show (match toD G 40 (.wt [.str x]), toD G 40 (.tup [.str y]) with
    | some d, some e => if SeqAt.shaped d = true ∧ SeqAt.shaped e = true then some (PyData.eqv d e) else none
    | _, _ => none) = _
  have e1 : ∀ z : Str, toD G 40 (.tup [.str z]) = some (.tuple [.str z]) := fun z => rfl
  have e2 : ∀ z : Str, toD G 40 (.wt [.str z]) = some (.tuple [.str z]) := fun z => rfl
  rw [e1, e2]
  simp only [shaped1 hx, shaped1 hy, and_self, if_true, PyData.eqv, PyData.eqvAll, Bool.and_true]
  rfl
theorem eqT2 (x y : Str) (i : Int) (G : Gp) (hx : PyData.strOk x = true := by decide +kernel) (hy : PyData.strOk y = true := by decide +kernel) : FL.eqU G (.tup [.str x, .int i]) (.tup [.str y]) = some false := by
  show (match toD G 40 (.tup [.str x, .int i]), toD G 40 (.tup [.str y]) with
    | some d, some e => if SeqAt.shaped d = true ∧ SeqAt.shaped e = true then some (PyData.eqv d e) else none
    | _, _ => none) = _
  have e1 : toD G 40 (.tup [.str y]) = some (.tuple [.str y]) := rfl
  have e2 : toD G 40 (.tup [.str x, .int i]) = some (.tuple [.str x, .int i]) := rfl
  rw [e1, e2]
  simp only [shaped1 hy, shaped2 hx, and_self, if_true, PyData.eqv, PyData.eqvAll, Bool.and_false]
theorem isT_tup (xs : List U) (G : Gp) : isRes tbTup (.tup xs) G = .ok (.bl true) G := rfl
theorem isT_wt (xs : List U) (G : Gp) : isRes tbTup (.wt xs) G = .ok (.bl true) G := rfl
theorem isS_str (b : Str) (G : Gp) : isRes tbStr (.str b) G = .ok (.bl true) G := rfl
theorem is_number_spec {v : U} (h : noRef v) (G : Gp) : F__law_is_number [v] G = .ok (.bl (match v with | .int i => decide (0 ≤ i) | _ => false)) G := by
  rw [run__law_is_number]
  simp only [g__law_is_number, sRet_, eAnd_, eNot_, eIs_, eVar_, List.getElem?_cons_zero, r_bind_ok, isRes_of (tyN_of h) (lkInt v), isRes_of (tyN_of h) (lkBool v), asB_ok]
  cases v <;> simp [isIB, isB]
def EnvK (v : U) (N R a l s m : Int) (D : Nat) (d : Option U) : Ev := [some v, some (.int N), some (.int R), some (.int a), some (.int l), some (.int s), some (.int m), some (.ref D), d]
theorem walk_step {v : U} {N R : Nat} {Ni Ri a l s m : Int} {D : Nat} {G0 G : Gp} {j j' : J} {d : Dd} (hN : Ni = (N : Int)) (hR : Ri = (R : Int)) (hR2 : R ≤ 1000) (ha : a = (j.at_ : Int)) (hl : l = (j.left : Int)) (hs : s = (j.steps : Int)) (hk : j.ks.length ≤ R)
    (x : Ex0 G0 G) (hD : G0.length ≤ D) (hd : G[D]? = some (.dct (kvs j.ks))) (st : stepJ N R j d = some j') :
    ∃ (a' l' s' m' : Int) (G' : Gp), g__law_walked_7 (EnvK v Ni Ri a l s m D (some (dU d))) G = .nx (EnvK v Ni Ri a' l' s' m' D (some (dU d))) G' ∧ a' = (j'.at_ : Int) ∧ l' = (j'.left : Int) ∧ s' = (j'.steps : Int) ∧ j'.ks.length ≤ R ∧ Ex0 G0 G' ∧ G'[D]? = some (.dct (kvs j'.ks)) := by
  have mem : ∀ y : Nat, gInD false false (.int (y : Nat)) (.ref D) G = .ok (.bl (decide (y ∈ j.ks))) G := fun y => by
    rw [gInD_ref (t := false) hd rfl, kvs_get]
    by_cases c : y ∈ j.ks <;> simp [c]
  have nmem : ∀ y : Nat, gInD false true (.int (y : Nat)) (.ref D) G = .ok (.bl (decide (y ∉ j.ks))) G := fun y => by
    rw [gInD_ref (t := false) hd rfl, kvs_get]
    by_cases c : y ∈ j.ks <;> simp [c]
  have ld : bLenD [.ref D] G = .ok (.int (j.ks.length : Nat)) G := by rw [bLenD_ref hd, kvs_len]
  have i0 : ∀ (y : U) (r : List U), gIdx (.tup (y :: r)) (.int 0) G = .ok y G := fun y r => gIdx_tup (atI_pos (by decide) rfl)
  have j0 : ∀ (y : U) (r : List U), gIdx (.wt (y :: r)) (.int 0) G = .ok y G := fun y r => gIdx_seq rfl (atI_pos (by decide) rfl)
  have i1 : ∀ (y z : U), gIdx (.tup [y, z]) (.int 1) G = .ok z G := fun y z => gIdx_tup (atI_pos (by decide) rfl)
  cases d with
  | on =>
    have st : (if j.at_ + 1 < N then some (⟨j.at_ + 1, j.left, j.steps + 1, j.ks⟩ : J) else none) = some j' := st
    by_cases c : j.at_ + 1 < N
    · rw [if_pos c] at st
      cases st
      have c' : a < Ni - 1 := by omega
      have q1 : FL.eqU G (.wt [.str "on"]) (.tup [.str "on"]) = some true := (eqT "on" "on" G).trans rfl
      refine ⟨a + 1, l, s + 1, m, G, ?_, by show _ = ((j.at_ + 1 : Nat) : Int); omega, hl, by show _ = ((j.steps + 1 : Nat) : Int); omega, hk, x, hd⟩
      simp [EnvK, dU, g__law_walked_7, g__law_walked_5, isT_tup, isT_wt, i0, j0, isS_str, q1, c']
    · rw [if_neg c] at st
      exact nomatch st
  | keep =>
    have st : (if j.at_ ∉ j.ks ∧ j.ks.length < R then some (⟨j.at_, j.left, j.steps, j.ks ++ [j.at_]⟩ : J) else none) = some j' := st
    by_cases c : j.at_ ∉ j.ks ∧ j.ks.length < R
    · rw [if_pos c] at st
      cases st
      have q1 : FL.eqU G (.wt [.str "keep"]) (.tup [.str "on"]) = some false := (eqT "keep" "on" G).trans rfl
      have q2 : FL.eqU G (.wt [.str "keep"]) (.tup [.str "keep"]) = some true := (eqT "keep" "keep" G).trans rfl
      have n1 := nmem j.at_
      rw [decide_eq_true c.1, ← ha] at n1
      obtain ⟨li, hli⟩ : ∃ li : Int, li = ((j.ks.length : Nat) : Int) := ⟨_, rfl⟩
      rw [← hli] at ld
      have c2 : li < Ri := by omega
      have sd : setD false (.ref D) (.int a) (.bl true) G = .ok () (G.set D (.dct (kvs (j.ks ++ [j.at_])))) := by
        rw [setD_ref (t := false) hd rfl (by rw [kvs_len]; omega), ha, kvs_put c.1]; rfl
      obtain ⟨G1, hG1⟩ : ∃ G1, G1 = G.set D (.dct (kvs (j.ks ++ [j.at_]))) := ⟨_, rfl⟩
      rw [← hG1] at sd
      have hd1 : G1[D]? = some (.dct (kvs (j.ks ++ [j.at_]))) := by rw [hG1]; exact set_get hd
      have ld1 : bLenD [.ref D] G1 = .ok (.int (li + 1)) G1 := by rw [bLenD_ref hd1, kvs_len, List.length_append, hli]; rfl
      refine ⟨a, l, s, max m (li + 1), G1, ?_, ha, hl, hs, by simp; omega, by rw [hG1]; exact ex0_set x hD _, hd1⟩
      have gs : gSubD false (eVar 7) (eVar 3) (.bl true) (EnvK v Ni Ri a l s m D (some (.wt [.str "keep"]))) G = .ok (EnvK v Ni Ri a l s m D (some (.wt [.str "keep"]))) G1 := by
        simp [EnvK, gSubD, sd]
      have w3 : g__law_walked_3 (EnvK v Ni Ri a l s m D (some (.wt [.str "keep"]))) G = .nx (EnvK v Ni Ri a l s (max m (li + 1)) D (some (.wt [.str "keep"]))) G1 := by
        unfold g__law_walked_3
        rw [seq_nx (e' := EnvK v Ni Ri a l s m D (some (.wt [.str "keep"]))) (G' := G1) (by simp [gs])]
        simp [EnvK, ld1]
      have w7 : g__law_walked_7 (EnvK v Ni Ri a l s m D (some (.wt [.str "keep"]))) G = g__law_walked_3 (EnvK v Ni Ri a l s m D (some (.wt [.str "keep"]))) G := by
        obtain ⟨g3, hg3⟩ : ∃ g3, g3 = g__law_walked_3 := ⟨_, rfl⟩
        unfold g__law_walked_7 g__law_walked_6
        rw [← hg3]
        simp [EnvK, isT_tup, isT_wt, i0, j0, isS_str, q1, q2, n1, ld, c2]
      show g__law_walked_7 (EnvK v Ni Ri a l s m D (some (.wt [.str "keep"]))) G = _
      rw [w7, w3]
      rfl
    · rw [if_neg c] at st
      exact nomatch st
  | back =>
    have st : (if j.left = j.at_ + 1 then some (⟨j.at_, j.at_, j.steps, j.ks⟩ : J) else none) = some j' := st
    by_cases c : j.left = j.at_ + 1
    · rw [if_pos c] at st
      cases st
      have q1 : FL.eqU G (.wt [.str "back"]) (.tup [.str "on"]) = some false := (eqT "back" "on" G).trans rfl
      have q2 : FL.eqU G (.wt [.str "back"]) (.tup [.str "keep"]) = some false := (eqT "back" "keep" G).trans rfl
      have q3 : FL.eqU G (.wt [.str "back"]) (.tup [.str "back"]) = some true := (eqT "back" "back" G).trans rfl
      have c1 : 0 < l := by omega
      have c2 : a = l - 1 := by omega
      refine ⟨a, l - 1, s, m, G, ?_, ha, by show _ = (j.at_ : Int); omega, hs, hk, x, hd⟩
      simp [EnvK, dU, g__law_walked_7, g__law_walked_6, g__law_walked_4, isT_tup, isT_wt, i0, j0, isS_str, q1, q2, q3, c1, c2]
    · rw [if_neg c] at st
      exact nomatch st
  | take i =>
    have st : (if i ∈ j.ks then some (⟨i, j.left, j.steps, j.ks⟩ : J) else none) = some j' := st
    by_cases c : i ∈ j.ks
    · rw [if_pos c] at st
      cases st
      have q1 : ∀ y : Int, FL.eqU G (.tup [.str "take", .int y]) (.tup [.str "on"]) = some false := fun y => eqT2 _ _ _ _
      have q2 : ∀ y : Int, FL.eqU G (.tup [.str "take", .int y]) (.tup [.str "keep"]) = some false := fun y => eqT2 _ _ _ _
      have q3 : ∀ y : Int, FL.eqU G (.tup [.str "take", .int y]) (.tup [.str "back"]) = some false := fun y => eqT2 _ _ _ _
      have m1 := mem i
      rw [decide_eq_true c] at m1
      obtain ⟨ii, hii⟩ : ∃ ii : Int, ii = (i : Int) := ⟨_, rfl⟩
      have nu := is_number_spec (noRef_int ii) G
      simp only [decide_eq_true (show 0 ≤ ii by omega)] at nu
      rw [← hii] at m1
      refine ⟨ii, l, s, m, G, ?_, hii, hl, hs, hk, x, hd⟩
      show g__law_walked_7 (EnvK v Ni Ri a l s m D (some (.tup [.str "take", .int (i : Nat)]))) G = .nx (EnvK v Ni Ri ii l s m D (some (.tup [.str "take", .int (i : Nat)]))) G
      rw [← hii]
      simp [EnvK, g__law_walked_7, g__law_walked_6, g__law_walked_4, g__law_walked_2, isT_tup, isT_wt, i0, j0, isS_str, q1, q2, q3, i1, nu, m1]
    · rw [if_neg c] at st
      exact nomatch st
  | drop i =>
    have st : (if i ∈ j.ks then some (⟨j.at_, j.left, j.steps, j.ks.filter (fun y => decide (y ≠ i))⟩ : J) else none) = some j' := st
    by_cases c : i ∈ j.ks
    · rw [if_pos c] at st
      cases st
      have q1 : ∀ y : Int, FL.eqU G (.tup [.str "drop", .int y]) (.tup [.str "on"]) = some false := fun y => eqT2 _ _ _ _
      have q2 : ∀ y : Int, FL.eqU G (.tup [.str "drop", .int y]) (.tup [.str "keep"]) = some false := fun y => eqT2 _ _ _ _
      have q3 : ∀ y : Int, FL.eqU G (.tup [.str "drop", .int y]) (.tup [.str "back"]) = some false := fun y => eqT2 _ _ _ _
      have q4 : FL.eqU G (.str "drop") (.str "take") = some false := rfl
      have m1 := mem i
      rw [decide_eq_true c] at m1
      obtain ⟨ii, hii⟩ : ∃ ii : Int, ii = (i : Int) := ⟨_, rfl⟩
      have nu := is_number_spec (noRef_int ii) G
      simp only [decide_eq_true (show 0 ≤ ii by omega)] at nu
      rw [← hii] at m1
      have pd : popD (.ref D) (.int ii) G = .ok (.bl true) (G.set D (.dct (kvs (j.ks.filter fun y => decide (y ≠ i))))) := by
        rw [hii, popD_ref hd rfl (v := .bl true) (by rw [kvs_get, if_pos c]), kvs_drop]
      obtain ⟨G1, hG1⟩ : ∃ G1, G1 = G.set D (.dct (kvs (j.ks.filter fun y => decide (y ≠ i)))) := ⟨_, rfl⟩
      rw [← hG1] at pd
      have isd := isDct_ref hd
      have ep : ePopD (eVar 7) (eBin gIdx (eVar 8) (eC (.int 1))) (EnvK v Ni Ri a l s m D (some (.tup [.str "drop", .int ii]))) G = .ok (.bl true) G1 := by
        simp [EnvK, ePopD, isd, i1, pd]
      refine ⟨a, l, s, m, G1, ?_, ha, hl, hs, Nat.le_trans (List.length_filter_le _ _) hk, by rw [hG1]; exact ex0_set x hD _, by rw [hG1]; exact set_get hd⟩
      show g__law_walked_7 (EnvK v Ni Ri a l s m D (some (.tup [.str "drop", .int (i : Nat)]))) G = .nx (EnvK v Ni Ri a l s m D (some (.tup [.str "drop", .int (i : Nat)]))) G1
      rw [← hii]
      have ep : ePopD (eVar 7) (eBin gIdx (eVar 8) (eC (.int 1))) [some v, some (.int Ni), some (.int Ri), some (.int a), some (.int l), some (.int s), some (.int m), some (.ref D), some (.tup [.str "drop", .int ii])] G = .ok (.bl true) G1 := ep
      simp [EnvK, g__law_walked_7, g__law_walked_6, g__law_walked_4, g__law_walked_2, g__law_walked_1, isT_tup, isT_wt, i0, j0, isS_str, q1, q2, q3, q4, i1, nu, m1, ep]
    · rw [if_neg c] at st
      exact nomatch st
end K96

set_option Elab.async false
set_option linter.all false
set_option maxRecDepth 100000
set_option maxHeartbeats 4000000
set_option autoImplicit false
namespace K96
open PySem PySem.Spec L2 FL
/-! ### the whole walk, judged -/
theorem walked_spec {ds : List Dd} {N R c : Nat} {ks : List Nat} {Ni Ri : Int} (hN : Ni = (N : Int)) (hR : Ri = (R : Int)) (hR2 : R ≤ 1000) (hrun : runJ N R ds ⟨0, N, 0, []⟩ = some ⟨0, 0, c, ks⟩) (G : Gp) :
    ∃ (l : Nat) (G' : Gp) (m : Int), F__law_walked [.tup (ds.map dU), .int Ni, .int Ri] G = .ok (.ref l) G' ∧ Ex0 G G' ∧ G'[l]? = some (.lst [.int (c : Nat), .int m]) := by
  rw [run__law_walked]
  obtain ⟨D, hD⟩ : ∃ D, D = G.length := ⟨_, rfl⟩
  obtain ⟨G1, hG1⟩ : ∃ G1, G1 = G ++ [OU.dct []] := ⟨_, rfl⟩
  have x1 : Ex0 G G1 := by rw [hG1]; exact ex0_push _ _
  have d1 : G1[D]? = some (.dct (kvs [])) := by rw [hG1, hD]; exact push_at _ _
  have L : ∃ m d G2, sFor (iOf (eVar 0) kSeq) (gNm 8) g__law_walked_7 (EnvK (.tup (ds.map dU)) Ni Ri 0 Ni 0 0 D none) G1 = .nx (EnvK (.tup (ds.map dU)) Ni Ri 0 0 (c : Nat) m D d) G2 ∧ Ex0 G G2 := by
    obtain ⟨v, hv⟩ : ∃ v, v = U.tup (ds.map dU) := ⟨_, rfl⟩
    rw [← hv]
    refine sFor_tup (xs := ds.map dU) (G1 := G1) (fun i e G' => ∃ (j : J) (a l s m : Int) (d : Option U), e = EnvK v Ni Ri a l s m D d ∧ a = (j.at_ : Int) ∧ l = (j.left : Int) ∧ s = (j.steps : Int) ∧ j.ks.length ≤ R ∧ Ex0 G G' ∧ G'[D]? = some (.dct (kvs j.ks)) ∧ runJ N R (ds.drop i) j = some ⟨0, 0, c, ks⟩)
      (fun r => ∃ m d G2, r = .nx (EnvK v Ni Ri 0 0 (c : Nat) m D d) G2 ∧ Ex0 G G2) (by simp [EnvK, hv]) ⟨⟨0, N, 0, []⟩, 0, Ni, 0, 0, none, rfl, rfl, hN, rfl, Nat.zero_le _, x1, d1, hrun⟩ ?_ ?_
    · intro i hi e G' hI
      obtain ⟨j, a, l, s, m, d, he, ha, hl, hs, hk, x, hd, hr⟩ := hI
      have hi' : i < ds.length := by simpa using hi
      rw [List.getElem_map]
      rw [List.drop_eq_getElem_cons hi'] at hr
      generalize ds[i] = dd at hr ⊢
      have hr : (stepJ N R j dd).bind (runJ N R (ds.drop (i + 1))) = some ⟨0, 0, c, ks⟩ := hr
      cases q : stepJ N R j dd with
      | none => rw [q] at hr; exact nomatch hr
      | some j' =>
        rw [q] at hr
        have hr : runJ N R (ds.drop (i + 1)) j' = some ⟨0, 0, c, ks⟩ := hr
        obtain ⟨a', l', s', m', G2, e2, ha', hl', hs', hk', x', hd'⟩ := walk_step (v := v) (m := m) hN hR hR2 ha hl hs hk x (by omega) hd q
        have fine : (gNm 8 (dU dd) e G').andThen e (fun env1 G1 => g__law_walked_7 env1 G1) = .nx (EnvK v Ni Ri a' l' s' m' D (some (dU dd))) G2 := by
          rw [gNm_, r_then_ok, ← e2, he]
          rfl
        rw [fine]
        exact ⟨j', a', l', s', m', _, rfl, ha', hl', hs', hk', x', hd', hr⟩
    · intro e G' hI
      obtain ⟨j, a, l, s, m, d, he, ha, hl, hs, hk, x, hd, hr⟩ := hI
      rw [List.length_map, List.drop_length] at hr
      cases hr
      have ha : a = 0 := ha
      have hl : l = 0 := hl
      subst ha hl hs
      exact ⟨m, d, G', by rw [he], x⟩
  obtain ⟨m, d, G2, L, x2⟩ := L
  have isT := isT_tup (ds.map dU) G
  generalize U.tup (ds.map dU) = v at L isT
  generalize ((c : Nat) : Int) = ci at L ⊢
  refine ⟨G2.length, G2 ++ [.lst [.int ci, .int m]], m, ?_, x2.trans (ex0_push _ _), push_at _ _⟩
  unfold g__law_walked
  rw [seq_nx (e' := [some v, some (.int Ni), some (.int Ri), none, none, none, none, none, none]) (G' := G) (by simp [isT]), seq_nx (e' := [some v, some (.int Ni), some (.int Ri), some (.int 0), none, none, none, none, none]) (G' := G) (by simp), seq_nx (e' := [some v, some (.int Ni), some (.int Ri), some (.int 0), some (.int Ni), none, none, none, none]) (G' := G) (by simp),
    seq_nx (e' := [some v, some (.int Ni), some (.int Ri), some (.int 0), some (.int Ni), some (.int 0), none, none, none]) (G' := G) (by simp), seq_nx (e' := [some v, some (.int Ni), some (.int Ri), some (.int 0), some (.int Ni), some (.int 0), some (.int 0), none, none]) (G' := G) (by simp)]
  have dn : sAsg (eDict0 false) (gNm 7) [some v, some (.int Ni), some (.int Ri), some (.int 0), some (.int Ni), some (.int 0), some (.int 0), none, none] G = .nx (EnvK v Ni Ri 0 Ni 0 0 D none) G1 := by
    rw [sAsg_, hG1, hD]
    rfl
  rw [seq_nx dn, seq_nx L]
  simp [EnvK]
theorem chain_ok {m r : Nat} {mi ri : Int} (m1 : 1 ≤ m) (m2 : m ≤ 40) (r2 : r ≤ 40) (hm : mi = (m : Int)) (hr : ri = (r : Int)) (G : Gp) : F_check_chain [.int mi, .int ri] G = .ok .non G := by
  rw [run_check_chain]
  have c1 := check_number_ok (lo := 1) (up := 40) (noRef_int mi) G (inR_int (by omega) (by omega))
  have c2 := check_number_ok (lo := 0) (up := 40) (noRef_int ri) G (inR_int (by omega) (by omega))
  simp [g_check_chain, c1, c2]
theorem least_on_spec {m r : Nat} {mi ri : Int} (m1 : 1 ≤ m) (m2 : m ≤ 40) (r2 : r ≤ 40) (hm : mi = (m : Int)) (hr : ri = (r : Int)) (G : Gp) : F_least_on [.int mi, .int ri] G = .ok (optU (need m r)) G := by
  rw [run_least_on]
  have c := chain_ok m1 m2 r2 hm hr G
  have o := on_spec m1 m2 r2 hm hr G
  simp [g_least_on, c, o]
theorem walk_spec {m r x : Nat} {mi ri : Int} (m1 : 1 ≤ m) (m2 : m ≤ 40) (r2 : r ≤ 40) (hm : mi = (m : Int)) (hr : ri = (r : Int)) (hx : need m r = some x) (G : Gp) :
    ∃ (c : Nat) (ds : List Dd) (G' : Gp), F_walk [.int mi, .int ri] G = .ok (.tup (ds.map dU)) G' ∧ Ex0 G G' ∧ c = x ∧ runJ m r ds ⟨0, m, 0, []⟩ = some ⟨0, 0, c, []⟩ := by
  obtain ⟨l, c, ds, G', e, x', a', hc, _, g⟩ := deeds_spec 40 m r 0 false x mi ri 0 G m1 m2 m2 r2 hx hm hr rfl
  have g0 := g m r 0 [] (fun z => nomatch z) (fun _ => ⟨by simp, by simp⟩) (fun y hy => by simp at hy) (by omega)
  rw [Nat.zero_add, Nat.zero_add] at g0
  refine ⟨c, ds, G', ?_, x', hc, g0⟩
  rw [run_walk]
  have ck := chain_ok m1 m2 r2 hm hr G
  have o := on_spec m1 m2 r2 hm hr G
  rw [hx] at o
  have o : F_on_needed [.int mi, .int ri] G = .ok (.int (x : Nat)) G := o
  have bt : bTuple [.ref l] G' = .ok (.tup (ds.map dU)) G' := bTuple_seq (seqU_of a')
  generalize U.tup (ds.map dU) = v at bt ⊢
  generalize ((x : Nat) : Int) = xi at o
  simp [g_walk, ck, o, e, bt]
/-! ### values that are compared -/
structure PD (x : U) (d : PyData) : Prop where
  to : ∀ G, toD G 39 x = some d
  lay : PyData.canLay0 d = true
  dep : d.depth ≤ 30
  eq : PyData.eqv d d = true
  nr : noRef x
theorem pd_int (i : Int) : PD (.int i) (.int i) := ⟨fun _ => rfl, rfl, by simp [PyData.depth], by simp [PyData.eqv], noRef_int i⟩
theorem pd_non : PD .non .none := ⟨fun _ => rfl, rfl, by decide, rfl, fun l h => nomatch h⟩
def Val (x : U) : Prop := ∃ d, PD x d
theorem val_opt (o : Option Nat) : Val (optU o) := by
  cases o with
  | none => exact ⟨_, pd_non⟩
  | some x => exact ⟨_, pd_int x⟩
theorem eqU_l2 {G : Gp} {l m : Nat} {z : Str} {x : U} (hz : PyData.strOk z = true) (h1 : G[l]? = some (.lst [.str z, x])) (h2 : G[m]? = some (.lst [.str z, x])) (hx : Val x) : FL.eqU G (.ref l) (.ref m) = some true := by
  obtain ⟨d, p⟩ := hx
  have e : ∀ q, G[q]? = some (.lst [.str z, x]) → toD G 40 (.ref q) = some (.list [.str z, d]) := fun q h => by
    show (match G[q]? with
      | some (.lst xs) => (optAll (toD G 39) xs).map PyData.list
      | _ => none) = _
    have t := p.to G
    have e2 : optAll (toD G 39) [.str z, x] = some [.str z, d] := by
      unfold optAll
      have e3 : optAll (toD G 39) [x] = some [d] := by
        unfold optAll
        rw [t]
        rfl
      rw [e3]
      rfl
    rw [h]; simp only [e2]; rfl
  show (match toD G 40 (.ref l), toD G 40 (.ref m) with
    | some d, some e => if SeqAt.shaped d = true ∧ SeqAt.shaped e = true then some (PyData.eqv d e) else none
    | _, _ => none) = _
  have sh : SeqAt.shaped (.list [.str z, d]) = true := by
    have h1 := p.lay
    have h2 := p.dep
    unfold SeqAt.shaped
    simp [PyData.canLay0, PyData.canLayAll0, PyData.depth, PyData.depthAll, hz, h1]
    omega
  rw [e l h1, e m h2]
  simp [sh, PyData.eqv, PyData.eqvAll, p.eq]
def odds : List U := [.int 0, .int 41, .int (-1), .bl true, .bl false, .non, .str "3", .tup [.int 3], .str "", .int (10 ^ 60), .int (-40), .int 42, .tup [], .tup [.tup [.int 1, .int 2], .int 3]]
theorem odds_val : ∀ x ∈ odds, Val x := by
  intro x hx
  simp only [odds, List.mem_cons, List.not_mem_nil, or_false] at hx
  rcases hx with rfl | rfl | rfl | rfl | rfl | rfl | rfl | rfl | rfl | rfl | rfl | rfl | rfl | rfl
  · exact ⟨_, pd_int _⟩
  · exact ⟨_, pd_int _⟩
  · exact ⟨_, pd_int _⟩
  · exact ⟨.bool true, fun _ => rfl, rfl, by decide, rfl, fun l h => nomatch h⟩
  · exact ⟨.bool false, fun _ => rfl, rfl, by decide, rfl, fun l h => nomatch h⟩
  · exact ⟨_, pd_non⟩
  · exact ⟨.str "3", fun _ => rfl, by decide +kernel, by decide, by decide +kernel, fun l h => nomatch h⟩
  · exact ⟨.tuple [.int 3], fun _ => rfl, by decide +kernel, by decide +kernel, by decide +kernel, fun l h => nomatch h⟩
  · exact ⟨.str "", fun _ => rfl, by decide +kernel, by decide, by decide +kernel, fun l h => nomatch h⟩
  · exact ⟨_, pd_int _⟩
  · exact ⟨_, pd_int _⟩
  · exact ⟨_, pd_int _⟩
  · exact ⟨.tuple [], fun _ => rfl, by decide +kernel, by decide +kernel, by decide +kernel, fun l h => nomatch h⟩
  · exact ⟨.tuple [.tuple [.int 1, .int 2], .int 3], fun _ => rfl, by decide +kernel, by decide +kernel, by decide +kernel, fun l h => nomatch h⟩
theorem odd_spec {G : Gp} (hD : Dr G) : ∃ v G', F__law_odd [.ref 2] G = .ok v G' ∧ Val v ∧ Dr G' ∧ Ext G G' := by
  rw [run__law_odd]
  have hl := hD.len
  obtain ⟨G1, hG1⟩ : ∃ G1, G1 = G ++ [OU.lst odds] := ⟨_, rfl⟩
  have x1 : Ex0 G G1 := by rw [hG1]; exact ex0_push _ _
  have a1 : G1[G.length]? = some (.lst odds) := by rw [hG1]; exact push_at _ _
  obtain ⟨r, G2, e2, h0, h1, o2, d2⟩ := draw_spec (m := 14) (x1.dr hD) (by decide) (by decide)
  have a2 := o2.ext.at_ hl a1
  have hr : r.toNat < odds.length := by show r.toNat < 14; omega
  have ix : gIdx (.ref G.length) (.int r) G2 = .ok odds[r.toNat] G2 := gIdx_ref a2 (atI_pos h0 (List.getElem?_eq_getElem hr))
  refine ⟨odds[r.toNat], G2, ?_, odds_val _ (List.getElem_mem hr), d2, x1.ext.trans o2.ext⟩
  have pw : ∀ G', gPow (.int 10) (.int 60) G' = .ok (.int (10 ^ 60)) G' := fun G' => rfl
  have hg : G ++ [OU.lst odds] = G1 := hG1.symm
  unfold odds at hg
  unfold g__law_odd
  generalize odds[r.toNat] = v at ix ⊢
  generalize (10 : Int) ^ 60 = z at pw hg
  simp [pw, hg, e2, ix]
end K96

set_option Elab.async false
set_option linter.all false
set_option maxRecDepth 100000
set_option maxHeartbeats 4000000
set_option autoImplicit false
namespace K96
open PySem PySem.Spec L2 FL
/-! ### comprehensions -/
/-- a source that gives these items while the older lists stay -/
def SrcX (src : Src) (xs : List U) (G1 : Gp) : Prop := xs.length < src.fuel ∧ ∀ i G2, i ≤ xs.length → Ex0 G1 G2 → src.at_ i G2 = some xs[i]?
theorem srcx_tup {xs : List U} {G : Gp} : kSeq (.tup xs) G = some (.items xs) ∧ SrcX (.items xs) xs G := ⟨rfl, Nat.lt_succ_self _, fun _ _ _ _ => rfl⟩
theorem srcx_ref {l : Nat} {xs : List U} {G : Gp} (h : G[l]? = some (.lst xs)) : ∃ src, kSeq (.ref l) G = some src ∧ SrcX src xs G := by
  obtain ⟨src, e, g⟩ := gives_ref (I := fun _ _ G' => G'[l]? = some (.lst xs)) h (fun _ _ _ h => h)
  exact ⟨src, e, g.1, fun i G2 hi hx => g.2 i [] G2 hi (hx.at_ h)⟩
theorem srcx_rng {n : Nat} {G : Gp} (hn : n < 1000000) : ∃ src, kRng1 [.int (n : Nat)] G = some src ∧ SrcX src ((List.range n).map fun i => U.int (i : Nat)) G := by
  obtain ⟨src, e, g⟩ := gives_rng1 (I := fun _ _ _ => True) (j := (n : Int)) (by omega) (by omega) (G := G)
  have e2 : rng 0 (n : Int).toNat = (List.range n).map fun i => U.int (i : Nat) := by unfold rng; simp
  rw [e2] at g
  exact ⟨src, e, g.1, fun i G2 hi _ => g.2 i [] G2 hi trivial⟩
/-- a comprehension that makes no lists -/
theorem comp_pure {α : Type} {own : List Nat} {fi : Ev → Gp → R Src} {gf : U → Ev → Gp → R Ev} {ft : Ev → Gp → R Bool} {fe : Ev → Gp → R U} {env : Ev} {G G1 : Gp} {src : Src} {ys : List α} {g : α → U} (p : α → Bool) (f : α → U) (hf : fi env G = .ok src G1) (hs : SrcX src (ys.map g) G1) (hlen : ys.length < 16777216)
    (step : ∀ (i : Nat) (hi : i < ys.length) (G2 : Gp), Ex0 G1 G2 → ∃ env1, gf (g ys[i]) (wipeE env own) G2 = .ok env1 G2 ∧ ft env1 G2 = .ok (p ys[i]) G2 ∧ (p ys[i] = true → fe env1 G2 = .ok (f ys[i]) G2)) :
    ∃ G', eComp own fi gf ft fe env G = .ok (.ref G1.length) G' ∧ Ex0 G1 G' ∧ G'[G1.length]? = some (.lst ((ys.filter p).map f)) := by
  have hl : (ys.map g).length = ys.length := List.length_map ..
  refine eComp_post (src := src) (xs := ys.map g) (G1 := G1) (fun i acc G => acc = ((ys.take i).filter p).map f ∧ Ex0 G1 G) (fun r => ∃ G', r = .ok (.ref G1.length) G' ∧ Ex0 G1 G' ∧ G'[G1.length]? = some (.lst ((ys.filter p).map f))) hf ⟨hs.1, fun i acc G h hI => hs.2 i G h hI.2⟩ (by rw [hl]; exact hlen) ⟨by simp, ex0_push _ _⟩ ?_ ?_
  · intro i hi acc G2 hI hat
    obtain ⟨ha, hx⟩ := hI
    subst ha
    rw [hl] at hi
    obtain ⟨env1, s1, s2, s3⟩ := step i hi G2 hx
    rw [List.getElem_map]
    have tk : ys.take (i + 1) = ys.take i ++ [ys[i]] := List.take_succ_eq_append_getElem hi
    refine ⟨env1, G2, p ys[i], G2, s1, s2, fun hb => ⟨f ys[i], G2, s3 hb, hat, ?_, ex0_set hx (Nat.le_refl _) _⟩, fun hb => ⟨hat, ?_, hx⟩⟩
    · rw [tk, List.filter_append]; simp [hb]
    · rw [tk, List.filter_append]; simp [hb]
  · intro acc G2 _ hI hat
    obtain ⟨ha, hx⟩ := hI
    subst ha
    rw [hl, List.take_length] at hat
    exact ⟨G2, rfl, hx, hat⟩
end K96

set_option Elab.async false
set_option linter.all false
set_option maxRecDepth 100000
set_option maxHeartbeats 4000000
set_option autoImplicit false
namespace K96
open PySem PySem.Spec L2 FL
/-! ### the search, in plain numbers: a stand is 256 * at + 8 * kept + left -/
def stC (many c : Nat) : List Nat := (List.range many).filter fun k => (c / 8 % 32 / 2 ^ k) % 2 == 1
def freeC (many room c : Nat) : List Nat :=
  (if 0 < c % 8 ∧ c / 256 = c % 8 - 1 then [c - 1] else []) ++
  ((if c / 256 ∉ stC many c ∧ (stC many c).length < room then [c + 8 * 2 ^ (c / 256)] else []) ++
  (stC many c).flatMap fun k => [k * 256 + c % 256, c - 8 * 2 ^ k])
def psh (mask : Nat) : List Nat → List Nat → List Nat
  | [], st => st
  | o :: r, st => psh mask r (if mask.testBit o then st else o :: st)
def inn (many room : Nat) : Nat → List Nat → Nat → List Nat → Option (Nat × List Nat)
  | 0, _, mask, fur => some (mask, fur)
  | _ + 1, [], mask, fur => some (mask, fur)
  | n + 1, c :: st, mask, fur => if mask.testBit c then inn many room n st mask fur else
    if c % 8 = 0 then none else
    inn many room n (psh (mask ||| 2 ^ c) (freeC many room c) st) (mask ||| 2 ^ c) (if c / 256 + 1 < many then (c + 256) :: fur else fur)
def out (many room : Nat) : Nat → Nat → List Nat → Nat → Option Nat
  | 0, _, _, _ => none
  | n + 1, s, st, mask => match inn many room 20000 st mask [] with
    | none => some s
    | some (mask', fur) => if fur.isEmpty then none else out many room n (s + 1) fur mask'
theorem out_tab : ∀ m, m < 6 → ∀ r, r < 6 → 0 < m → out m r 60 0 [m] 0 = need m r := by decide +kernel
def Vc (many c : Nat) : Prop := c / 256 < many
/-! bits -/
theorem bit_no {k p : Nat} (hk : k < 32) {a : Nat} (ha : a < 5) (hp : p = 2 ^ a) (h : k / 2 ^ a % 2 = 0) : k + p < 32 := by
  have : a = 0 ∨ a = 1 ∨ a = 2 ∨ a = 3 ∨ a = 4 := by omega
  rcases this with rfl | rfl | rfl | rfl | rfl <;> subst hp <;> omega
theorem bit_yes {k p : Nat} (hk : k < 32) {a : Nat} (ha : a < 5) (hp : p = 2 ^ a) (h : k / 2 ^ a % 2 = 1) : p ≤ k := by
  have : a = 0 ∨ a = 1 ∨ a = 2 ∨ a = 3 ∨ a = 4 := by omega
  rcases this with rfl | rfl | rfl | rfl | rfl <;> subst hp <;> omega
def tU (c : Nat) : U := .tup [.int ((c / 256 : Nat) : Int), .int ((c / 8 % 32 : Nat) : Int), .int ((c % 8 : Nat) : Int)]
theorem st_mem {many c k : Nat} (h : k ∈ stC many c) : k < many ∧ c / 8 % 32 / 2 ^ k % 2 = 1 := by
  unfold stC at h
  obtain ⟨h1, h2⟩ := List.mem_filter.mp h
  exact ⟨List.mem_range.mp h1, by simpa using h2⟩
theorem st_not {many c k : Nat} (hk : k < many) (h : k ∉ stC many c) : c / 8 % 32 / 2 ^ k % 2 = 0 := by
  have h1 : ¬ c / 8 % 32 / 2 ^ k % 2 = 1 := fun z => h (List.mem_filter.mpr ⟨List.mem_range.mpr hk, by simpa using z⟩)
  omega
/-- the new stands, decoded -/
theorem tU_back {c : Nat} (h : 0 < c % 8) : tU (c - 1) = .tup [.int ((c / 256 : Nat) : Int), .int ((c / 8 % 32 : Nat) : Int), .int (((c % 8 : Nat) : Int) - 1)] := by
  unfold tU
  rw [show (c - 1) / 256 = c / 256 by omega, show (c - 1) / 8 % 32 = c / 8 % 32 by omega, show (((c - 1) % 8 : Nat) : Int) = ((c % 8 : Nat) : Int) - 1 by omega]
theorem tU_keep {c p : Nat} (h : c / 8 % 32 + p < 32) : tU (c + 8 * p) = .tup [.int ((c / 256 : Nat) : Int), .int (((c / 8 % 32 : Nat) : Int) + (p : Int)), .int ((c % 8 : Nat) : Int)] := by
  unfold tU
  rw [show (c + 8 * p) / 256 = c / 256 by omega, show (((c + 8 * p) / 8 % 32 : Nat) : Int) = ((c / 8 % 32 : Nat) : Int) + (p : Int) by omega, show (c + 8 * p) % 8 = c % 8 by omega]
theorem tU_take (c k : Nat) : tU (k * 256 + c % 256) = .tup [.int (k : Int), .int ((c / 8 % 32 : Nat) : Int), .int ((c % 8 : Nat) : Int)] := by
  unfold tU
  rw [show (k * 256 + c % 256) / 256 = k by omega, show (k * 256 + c % 256) / 8 % 32 = c / 8 % 32 by omega, show (k * 256 + c % 256) % 8 = c % 8 by omega]
theorem tU_drop {c p : Nat} (h : p ≤ c / 8 % 32) : tU (c - 8 * p) = .tup [.int ((c / 256 : Nat) : Int), .int (((c / 8 % 32 : Nat) : Int) - (p : Int)), .int ((c % 8 : Nat) : Int)] := by
  unfold tU
  rw [show (c - 8 * p) / 256 = c / 256 by omega, show (((c - 8 * p) / 8 % 32 : Nat) : Int) = ((c / 8 % 32 : Nat) : Int) - (p : Int) by omega, show (c - 8 * p) % 8 = c % 8 by omega]
theorem tU_on (c : Nat) : tU (c + 256) = .tup [.int (((c / 256 : Nat) : Int) + 1), .int ((c / 8 % 32 : Nat) : Int), .int ((c % 8 : Nat) : Int)] := by
  unfold tU
  rw [show (((c + 256) / 256 : Nat) : Int) = ((c / 256 : Nat) : Int) + 1 by omega, show (c + 256) / 8 % 32 = c / 8 % 32 by omega, show (c + 256) % 8 = c % 8 by omega]
theorem free_valid {many room c : Nat} (hm : many ≤ 5) (hv : Vc many c) : ∀ o ∈ freeC many room c, Vc many o := by
  intro o ho
  unfold freeC at ho
  unfold Vc at hv ⊢
  rcases List.mem_append.mp ho with ho | ho
  · split at ho
    · rw [List.mem_singleton] at ho; omega
    · exact absurd ho List.not_mem_nil
  · rcases List.mem_append.mp ho with ho | ho
    · split at ho
      · rename_i h
        rw [List.mem_singleton] at ho
        have := bit_no (k := c / 8 % 32) (by omega) (a := c / 256) (by omega) rfl (st_not hv h.1)
        generalize 2 ^ (c / 256) = p at this ho
        omega
      · exact absurd ho List.not_mem_nil
    · obtain ⟨k, hk, ho⟩ := List.mem_flatMap.mp ho
      have hk := st_mem hk
      simp only [List.mem_cons, List.not_mem_nil, or_false] at ho
      rcases ho with rfl | rfl
      · omega
      · omega
theorem free_len {many room c : Nat} (hm : many ≤ 5) : (freeC many room c).length ≤ 12 := by
  have h1 : (stC many c).length ≤ many := by
    unfold stC
    have := List.length_filter_le (fun k => (c / 8 % 32 / 2 ^ k) % 2 == 1) (List.range many)
    rw [List.length_range] at this
    exact this
  have h2 : ((stC many c).flatMap fun k => [k * 256 + c % 256, c - 8 * 2 ^ k]).length = 2 * (stC many c).length := by
    generalize stC many c = l
    induction l with
    | nil => rfl
    | cons x r ih => rw [List.flatMap_cons, List.length_append, ih]; simp; omega
  unfold freeC
  rw [List.length_append, List.length_append, h2]
  split <;> split <;> simp <;> omega
/-! what is in a list of ints -/
theorem any_ints (a : Nat) : ∀ ns : List Nat, ((ns.map fun i => U.int (i : Nat)).any fun y => eqF y (.int (a : Nat))) = decide (a ∈ ns)
  | [] => rfl
  | x :: r => by
    rw [List.map_cons, List.any_cons, any_ints a r]
    have e : eqF (.int (x : Nat)) (.int (a : Nat)) = decide (x = a) := by
      show (((x : Nat) : Int) == ((a : Nat) : Int)) = _
      by_cases c : x = a
      · subst c; simp
      · have : ¬ ((x : Nat) : Int) = ((a : Nat) : Int) := by omega
        simp [c, this]
    rw [e]
    by_cases c : x = a
    · subst c; simp
    · have : ¬ a = x := fun z => c z.symm
      simp [c, this]
theorem gIn_ints {l : Nat} {ns : List Nat} {a : Nat} {G : Gp} (h : G[l]? = some (.lst (ns.map fun i => U.int (i : Nat)))) : gIn true (.int (a : Nat)) (.ref l) G = .ok (.bl (decide (a ∉ ns))) G := by
  have e1 : (ns.map fun i => U.int (i : Nat)).all flatU = true := by simp [flatU]
  unfold gIn
  simp only [seqU_of h, any_ints, e1, flatU, and_self, if_true]
  by_cases c : a ∈ ns <;> simp [c]
def EnvG (a kp l m r : Int) (s t k : Option U) : Ev := [some (.int a), some (.int kp), some (.int l), some (.int m), some (.int r), s, t, k]
theorem app_codes {G0 G : Gp} {L : Nat} {xs : List Nat} {o : Nat} {u : U} (x : Ex0 G0 G) (hL : G0.length ≤ L) (h : G[L]? = some (.lst (xs.map tU))) (hl : xs.length < 16777216) (hu : u = tU o) :
    ∃ G', mAppend (.ref L) [u] G = .ok .non G' ∧ Ex0 G0 G' ∧ G'[L]? = some (.lst ((xs ++ [o]).map tU)) ∧ (∀ q, q ≠ L → G'[q]? = G[q]?) := by
  subst hu
  refine ⟨_, mAppend_ref h (by simpa using hl), ex0_set x hL _, ?_, fun q hq => List.getElem?_set_ne (Ne.symm hq)⟩
  rw [List.map_append]
  exact set_get h
theorem shl_one {k : Nat} {ki : Int} {G : Gp} (hk : k < 5) (hi : ki = (k : Int)) : gShl (.int 1) (.int ki) G = .ok (.int ((2 ^ k : Nat) : Int)) G := by
  rw [gShl_ (by omega) (by omega) (by decide), show ki.toNat = k by omega]
  congr 2
  rw [Int.one_mul, Int.natCast_pow]
  rfl
theorem free_spec {many room c : Nat} {a kp l mi ri : Int} {G : Gp} (hm : many ≤ 5) (hv : Vc many c) (ha : a = ((c / 256 : Nat) : Int)) (hk : kp = ((c / 8 % 32 : Nat) : Int)) (hl : l = ((c % 8 : Nat) : Int)) (hmi : mi = (many : Int)) (hri : ri = (room : Int)) :
    ∃ (lb : Nat) (G' : Gp), F__law_free [.int a, .int kp, .int l, .int mi, .int ri] G = .ok (.ref lb) G' ∧ Ex0 G G' ∧ G'[lb]? = some (.lst ((freeC many room c).map tU)) ∧ G.length ≤ lb := by
  rw [run__law_free]
  unfold Vc at hv
  -- the kept stands
  obtain ⟨src, c1, hsx⟩ := srcx_rng (n := many) (G := G) (by omega)
  rw [← hmi] at c1
  obtain ⟨G1, e1, x1, at1⟩ := comp_pure (own := [7]) (fi := iOfs (aCons (eVar 3) aNil) kRng1) (G := G) (G1 := G) (gf := gNm 7) (ft := bVal (eBin gEq (eBin gBand (eBin gShr (eVar 1) (eVar 7)) (eC (.int 1))) (eC (.int 1)))) (fe := eVar 7) (env := EnvG a kp l mi ri none none none) (ys := List.range many) (g := fun i => U.int (i : Nat)) (fun k => (c / 8 % 32 / 2 ^ k) % 2 == 1) (fun i => U.int (i : Nat)) (iOfs_ok (us := [.int mi]) (by simp [EnvG]) c1) hsx (by simp; omega) (fun i hi G2 x2 => by
    have hi' : i < many := by simpa using hi
    rw [List.getElem_range]
    have sh : gShr (.int kp) (.int (i : Nat)) G2 = .ok (.int ((c / 8 % 32 / 2 ^ i : Nat) : Int)) G2 := by
      rw [gShr_ (by omega), hk, Int.toNat_natCast]
      congr 2
    have hb : Builtin.bitAnd ((c / 8 % 32 / 2 ^ i : Nat) : Int) 1 = (((c / 8 % 32 / 2 ^ i) % 2 : Nat) : Int) := by
      rw [PyProof.Rows.bitAnd_m1]; omega
    have hd : decide ((((c / 8 % 32 / 2 ^ i) % 2 : Nat) : Int) = 1) = ((c / 8 % 32 / 2 ^ i) % 2 == 1) := by
      generalize (c / 8 % 32 / 2 ^ i) % 2 = z
      by_cases q : z = 1
      · subst q; rfl
      · have : ¬ ((z : Nat) : Int) = 1 := by omega
        simp [q, this]
    refine ⟨_, rfl, ?_, fun _ => ?_⟩
    · show _ = R.ok ((c / 8 % 32 / 2 ^ i) % 2 == 1) G2
      rw [← hd, ← hb]
      generalize ((c / 8 % 32 / 2 ^ i : Nat) : Int) = z at sh
      generalize ((i : Nat) : Int) = ii at sh
      simp [EnvG, wipeE, sh]
    · generalize ((i : Nat) : Int) = ii
      simp [EnvG, wipeE])
  have at1 : G1[G.length]? = some (.lst ((stC many c).map fun i => U.int (i : Nat))) := at1
  obtain ⟨S, hS⟩ : ∃ S, S = G.length := ⟨_, rfl⟩
  rw [← hS] at at1
  have hS1 := (List.getElem?_eq_some_iff.mp at1).1
  -- told
  obtain ⟨T, hT⟩ : ∃ T, T = G1.length := ⟨_, rfl⟩
  obtain ⟨G2, hG2⟩ : ∃ G2, G2 = G1 ++ [OU.lst []] := ⟨_, rfl⟩
  have x2 : Ex0 G1 G2 := by rw [hG2]; exact ex0_push _ _
  have t2 : G2[T]? = some (.lst (([] : List Nat).map tU)) := by rw [hG2, hT]; exact push_at _ _
  have hTl : G.length ≤ T := by have := x1.1; omega
  have s2 := x2.at_ at1
  have hST : S ≠ T := by omega
  -- back
  obtain ⟨G3, e3, x3, t3, s3⟩ : ∃ G3, sIf (tAndB (bVal (eBin gGt (eVar 2) (eC (.int 0)))) (bVal (eBin gEq (eVar 0) (eBin gSub (eVar 2) (eC (.int 1)))))) g__law_free_1 sNil (EnvG a kp l mi ri (some (.ref S)) (some (.ref T)) none) G2 = .nx (EnvG a kp l mi ri (some (.ref S)) (some (.ref T)) none) G3 ∧ Ex0 G G3 ∧ G3[T]? = some (.lst ((if 0 < c % 8 ∧ c / 256 = c % 8 - 1 then [c - 1] else []).map tU)) ∧ G3[S]? = some (.lst ((stC many c).map fun i => U.int (i : Nat))) := by
    by_cases q : 0 < c % 8 ∧ c / 256 = c % 8 - 1
    · rw [if_pos q]
      obtain ⟨G3, e3, x3, t3, o3⟩ := app_codes (o := c - 1) (u := .tup [.int a, .int kp, .int (l - 1)]) (x1.trans x2) hTl t2 (by decide) (by rw [tU_back q.1, ha, hk, hl])
      have il := isLst_ref t2
      have q1 : 0 < l := by omega
      have q2 : a = l - 1 := by omega
      exact ⟨G3, by rw [← q2] at e3; simp [EnvG, g__law_free_1, q1, ← q2, eMeth_, il, e3], x3, t3, by rw [o3 S hST]; exact s2⟩
    · rw [if_neg q]
      refine ⟨G2, ?_, x1.trans x2, t2, s2⟩
      by_cases q1 : 0 < l
      · have q2 : ¬ a = l - 1 := fun z => q ⟨by omega, by omega⟩
        simp [EnvG, q1, q2]
      · simp [EnvG, q1]
  obtain ⟨l1, hl1⟩ : ∃ l1, l1 = (if 0 < c % 8 ∧ c / 256 = c % 8 - 1 then [c - 1] else []) := ⟨_, rfl⟩
  rw [← hl1] at t3
  have hl1n : l1.length ≤ 1 := by rw [hl1]; split <;> simp
  have stn : (stC many c).length ≤ many := by
    unfold stC
    have := List.length_filter_le (fun k => (c / 8 % 32 / 2 ^ k) % 2 == 1) (List.range many)
    rw [List.length_range] at this
    exact this
  -- keep
  obtain ⟨G4, e4, x4, t4, s4⟩ : ∃ G4, sIf (tAndB (bVal (eBin (gIn true) (eVar 0) (eVar 5))) (bVal (eBin gLt (eCall bLen (aCons (eVar 5) aNil)) (eVar 4)))) g__law_free_2 sNil (EnvG a kp l mi ri (some (.ref S)) (some (.ref T)) none) G3 = .nx (EnvG a kp l mi ri (some (.ref S)) (some (.ref T)) none) G4 ∧ Ex0 G G4 ∧ G4[T]? = some (.lst ((l1 ++ (if c / 256 ∉ stC many c ∧ (stC many c).length < room then [c + 8 * 2 ^ (c / 256)] else [])).map tU)) ∧ G4[S]? = some (.lst ((stC many c).map fun i => U.int (i : Nat))) := by
    have gi := gIn_ints (a := c / 256) s3
    rw [← ha] at gi
    have bl : bLen [.ref S] G3 = .ok (.int ((stC many c).length : Nat)) G3 := by rw [bLen_seq (seqU_of s3), List.length_map]
    obtain ⟨li, hli⟩ : ∃ li : Int, li = (((stC many c).length : Nat) : Int) := ⟨_, rfl⟩
    rw [← hli] at bl
    by_cases q : c / 256 ∉ stC many c ∧ (stC many c).length < room
    · rw [if_pos q]
      have hb := bit_no (k := c / 8 % 32) (by omega) (a := c / 256) (by omega) rfl (st_not hv q.1)
      have sh := shl_one (k := c / 256) (ki := a) (G := G3) (by omega) ha
      obtain ⟨p, hp⟩ : ∃ p, p = 2 ^ (c / 256) := ⟨_, rfl⟩
      rw [← hp] at hb sh ⊢
      obtain ⟨G4, e4, x4, t4, o4⟩ := app_codes (o := c + 8 * p) (u := .tup [.int a, .int (kp + (p : Int)), .int l]) x3 hTl t3 (by omega) (by rw [tU_keep hb, ha, hk, hl])
      have il := isLst_ref t3
      rw [decide_eq_true q.1] at gi
      have q2 : li < ri := by omega
      generalize ((p : Nat) : Int) = pi at sh e4
      exact ⟨G4, by simp [EnvG, g__law_free_2, gi, bl, q2, eMeth_, il, sh, e4], x4, t4, by rw [o4 S hST]; exact s3⟩
    · rw [if_neg q, List.append_nil]
      refine ⟨G3, ?_, x3, t3, s3⟩
      by_cases q1 : c / 256 ∉ stC many c
      · rw [decide_eq_true q1] at gi
        have q2 : ¬ li < ri := fun z => q ⟨q1, by omega⟩
        simp [EnvG, gi, bl, q2]
      · rw [decide_eq_false q1] at gi
        simp [EnvG, gi]
  obtain ⟨l2, hl2⟩ : ∃ l2, l2 = l1 ++ (if c / 256 ∉ stC many c ∧ (stC many c).length < room then [c + 8 * 2 ^ (c / 256)] else []) := ⟨_, rfl⟩
  rw [← hl2] at t4
  have hl2n : l2.length ≤ 2 := by rw [hl2, List.length_append]; split <;> simp <;> omega
  -- take, drop
  have L : ∃ k G5, sFor (iOf (eVar 5) kSeq) (gNm 7) g__law_free_3 (EnvG a kp l mi ri (some (.ref S)) (some (.ref T)) none) G4 = .nx (EnvG a kp l mi ri (some (.ref S)) (some (.ref T)) k) G5 ∧ Ex0 G G5 ∧ G5[T]? = some (.lst ((l2 ++ (stC many c).flatMap fun k => [k * 256 + c % 256, c - 8 * 2 ^ k]).map tU)) := by
    refine sFor_ref (l := S) (xs := (stC many c).map fun i => U.int (i : Nat)) (G1 := G4) (fun i e G' => ∃ k, e = EnvG a kp l mi ri (some (.ref S)) (some (.ref T)) k ∧ Ex0 G G' ∧ G'[S]? = some (.lst ((stC many c).map fun i => U.int (i : Nat))) ∧ G'[T]? = some (.lst ((l2 ++ ((stC many c).take i).flatMap fun k => [k * 256 + c % 256, c - 8 * 2 ^ k]).map tU)))
      (fun r => ∃ k G5, r = .nx (EnvG a kp l mi ri (some (.ref S)) (some (.ref T)) k) G5 ∧ Ex0 G G5 ∧ G5[T]? = some (.lst ((l2 ++ (stC many c).flatMap fun k => [k * 256 + c % 256, c - 8 * 2 ^ k]).map tU))) (by simp [EnvG]) s4 (fun i e G' hI => by
        obtain ⟨k, _, _, h, _⟩ := hI
        exact h) ⟨none, rfl, x4, s4, by simpa using t4⟩ ?_ ?_
    · intro i hi e G' hI
      obtain ⟨k0, he, x, s, t⟩ := hI
      have hi' : i < (stC many c).length := by simpa using hi
      rw [List.getElem_map]
      have tk : (stC many c).take (i + 1) = (stC many c).take i ++ [(stC many c)[i]] := List.take_succ_eq_append_getElem hi'
      have hmem := st_mem (List.getElem_mem hi')
      rw [tk, List.flatMap_append, ← List.append_assoc]
      obtain ⟨l3, hl3⟩ : ∃ l3, l3 = l2 ++ ((stC many c).take i).flatMap fun k => [k * 256 + c % 256, c - 8 * 2 ^ k] := ⟨_, rfl⟩
      have hl3n : l3.length < 1000 := by
        rw [hl3, List.length_append]
        have : ∀ q : List Nat, (q.flatMap fun k => [k * 256 + c % 256, c - 8 * 2 ^ k]).length = 2 * q.length := fun q => by
          induction q with
          | nil => rfl
          | cons x r ih => rw [List.flatMap_cons, List.length_append, ih]; simp; omega
        rw [this, List.length_take]
        omega
      rw [← hl3] at t ⊢
      generalize (stC many c)[i] = k at hmem ⊢
      obtain ⟨ki, hki⟩ : ∃ ki : Int, ki = (k : Int) := ⟨_, rfl⟩
      have sh : ∀ G, gShl (.int 1) (.int ki) G = .ok (.int ((2 ^ k : Nat) : Int)) G := fun G => shl_one (by omega) hki
      have hb := bit_yes (k := c / 8 % 32) (by omega) (a := k) (by omega) rfl hmem.2
      obtain ⟨p, hp⟩ : ∃ p, p = 2 ^ k := ⟨_, rfl⟩
      simp only [← hp] at sh hb
      obtain ⟨G6, e6, x6, t6, o6⟩ := app_codes (o := k * 256 + c % 256) (u := .tup [.int ki, .int kp, .int l]) x hTl t (by omega) (by rw [tU_take, hki, hk, hl])
      have il := isLst_ref t
      obtain ⟨G7, e7, x7, t7, o7⟩ := app_codes (o := c - 8 * p) (u := .tup [.int a, .int (kp - (p : Int)), .int l]) x6 hTl t6 (by simp; omega) (by rw [tU_drop hb, ha, hk, hl])
      have il6 := isLst_ref t6
      rw [← hki]
      have fine : (gNm 7 (.int ki) e G').andThen e (fun env1 G1 => g__law_free_3 env1 G1) = .nx (EnvG a kp l mi ri (some (.ref S)) (some (.ref T)) (some (.int ki))) G7 := by
        generalize ((p : Nat) : Int) = pi at sh e7
        rw [gNm_, r_then_ok, he]
        show g__law_free_3 (EnvG a kp l mi ri (some (.ref S)) (some (.ref T)) (some (.int ki))) G' = _
        unfold g__law_free_3
        rw [seq_nx (e' := EnvG a kp l mi ri (some (.ref S)) (some (.ref T)) (some (.int ki))) (G' := G6) (by simp [EnvG, eMeth_, il, e6])]
        simp [EnvG, eMeth_, il6, sh, e7]
      rw [fine]
      refine ⟨_, rfl, x7, by rw [o7 S hST, o6 S hST]; exact s, ?_⟩
      rw [t7, hp]
      congr 2
      simp
    · intro e G' hI
      obtain ⟨k, he, x, s, t⟩ := hI
      subst he
      rw [List.length_map, List.take_length] at t
      exact ⟨k, G', rfl, x, t⟩
  obtain ⟨k, G5, L, x5, t5⟩ := L
  refine ⟨T, G5, ?_, x5, ?_, hTl⟩
  · unfold g__law_free
    rw [seq_nx (e' := EnvG a kp l mi ri (some (.ref S)) none none) (G' := G1) (by
      show sAsg _ _ (EnvG a kp l mi ri none none none) G = _
      rw [sAsg_, e1, hS]; rfl), seq_nx (e' := EnvG a kp l mi ri (some (.ref S)) (some (.ref T)) none) (G' := G2) (by simp [EnvG, hG2, hT]), seq_nx e3, seq_nx e4, seq_nx L]
    simp [EnvG]
  · rw [t5, hl2, hl1, List.append_assoc]
    rfl
end K96

set_option Elab.async false
set_option linter.all false
set_option maxRecDepth 100000
set_option maxHeartbeats 4000000
set_option autoImplicit false
namespace K96
open PySem PySem.Spec L2 FL
/-! ### what was seen -/
def sk (ss : List Nat) : List (U × U) := ss.map fun c => (tU c, .bl true)
theorem sk_len (ss : List Nat) : (sk ss).length = ss.length := by simp [sk]
theorem keyEq_tU (a b : Nat) : keyEq (tU a) (tU b) = decide (a = b) := by
  show (decide (((a / 256 : Nat) : Int) = ((b / 256 : Nat) : Int)) && (decide (((a / 8 % 32 : Nat) : Int) = ((b / 8 % 32 : Nat) : Int)) && (decide (((a % 8 : Nat) : Int) = ((b % 8 : Nat) : Int)) && true))) = _
  by_cases c : a = b
  · subst c; simp
  · have h : ¬ (((a / 256 : Nat) : Int) = ((b / 256 : Nat) : Int) ∧ ((a / 8 % 32 : Nat) : Int) = ((b / 8 % 32 : Nat) : Int) ∧ ((a % 8 : Nat) : Int) = ((b % 8 : Nat) : Int)) := by omega
    rw [decide_eq_false c]
    rw [Bool.and_true, ← Bool.decide_and, ← Bool.decide_and]
    exact decide_eq_false h
theorem sk_any (a : Nat) : ∀ ks : List Nat, ((sk ks).any fun p => keyEq p.1 (tU a)) = decide (a ∈ ks)
  | [] => rfl
  | k :: ks => by
    have ih := sk_any a ks
    unfold sk at ih ⊢
    rw [List.map_cons, List.any_cons, ih, keyEq_tU]
    by_cases c : k = a
    · subst c; simp
    · have : ¬ a = k := fun z => c z.symm
      simp [c, this]
theorem sk_get (a : Nat) : ∀ ks : List Nat, dGet (sk ks) (tU a) = if a ∈ ks then some (.bl true) else none
  | [] => rfl
  | k :: ks => by
    have ih := sk_get a ks
    unfold dGet sk at ih ⊢
    rw [List.map_cons, List.find?_cons, keyEq_tU]
    by_cases c : k = a
    · subst c; simp
    · have : ¬ a = k := fun z => c z.symm
      rw [decide_eq_false c]
      simp only [List.mem_cons, this, false_or]
      exact ih
theorem sk_put {a : Nat} {ks : List Nat} (h : a ∉ ks) : dPut (sk ks) (tU a) (.bl true) = sk (ks ++ [a]) := by
  unfold dPut
  rw [sk_any, if_neg (by simpa using h)]
  simp [sk]
def Mk (ss : List Nat) (mask : Nat) : Prop := ∀ c, decide (c ∈ ss) = mask.testBit c
theorem mk_nil : Mk [] 0 := fun c => by simp
theorem mk_add {ss : List Nat} {mask c : Nat} (h : Mk ss mask) : Mk (ss ++ [c]) (mask ||| 2 ^ c) := fun d => by
  rw [Nat.testBit_or, Nat.testBit_two_pow, ← h d]
  by_cases e : c = d
  · subst e; simp
  · have : ¬ d = c := fun z => e z.symm
    simp [e, this]
theorem nin_spec {Sn : Nat} {ss : List Nat} {mask c : Nat} {G : Gp} (h : G[Sn]? = some (.dtp (sk ss))) (hm : Mk ss mask) : gInD true true (tU c) (.ref Sn) G = .ok (.bl (!mask.testBit c)) G := by
  rw [gInD_ref (t := true) h rfl, sk_get, ← hm c]
  by_cases e : c ∈ ss <;> simp [e]
/-! ### the heap -/
structure HQ (G0 G : Gp) (Lv Sn Fu : Nat) (st ss fur : List Nat) : Prop where
  x : Ex0 G0 G
  lv : G[Lv]? = some (.lst (st.reverse.map tU))
  sn : G[Sn]? = some (.dtp (sk ss))
  fu : G[Fu]? = some (.lst (fur.reverse.map tU))
  h1 : G0.length ≤ Lv
  h2 : G0.length ≤ Sn
  h3 : G0.length ≤ Fu
  ne : Lv ≠ Fu
section
variable {G0 G : Gp} {Lv Sn Fu : Nat} {st ss fur : List Nat}
theorem HQ.ls (h : HQ G0 G Lv Sn Fu st ss fur) : Lv ≠ Sn := fun z => by have a := h.lv; rw [z, h.sn] at a; exact nomatch a
theorem HQ.fs (h : HQ G0 G Lv Sn Fu st ss fur) : Fu ≠ Sn := fun z => by have a := h.fu; rw [z, h.sn] at a; exact nomatch a
theorem HQ.ex {G' : Gp} (h : HQ G0 G Lv Sn Fu st ss fur) (x : Ex0 G G') : HQ G0 G' Lv Sn Fu st ss fur := ⟨h.x.trans x, x.at_ h.lv, x.at_ h.sn, x.at_ h.fu, h.h1, h.h2, h.h3, h.ne⟩
theorem HQ.setLv (h : HQ G0 G Lv Sn Fu st ss fur) (st' : List Nat) : HQ G0 (G.set Lv (.lst (st'.reverse.map tU))) Lv Sn Fu st' ss fur :=
  ⟨ex0_set h.x h.h1 _, set_get h.lv, by rw [List.getElem?_set_ne h.ls]; exact h.sn, by rw [List.getElem?_set_ne h.ne]; exact h.fu, h.h1, h.h2, h.h3, h.ne⟩
theorem HQ.setFu (h : HQ G0 G Lv Sn Fu st ss fur) (fur' : List Nat) : HQ G0 (G.set Fu (.lst (fur'.reverse.map tU))) Lv Sn Fu st ss fur' :=
  ⟨ex0_set h.x h.h3 _, by rw [List.getElem?_set_ne (Ne.symm h.ne)]; exact h.lv, by rw [List.getElem?_set_ne h.fs]; exact h.sn, set_get h.fu, h.h1, h.h2, h.h3, h.ne⟩
theorem HQ.setSn (h : HQ G0 G Lv Sn Fu st ss fur) (ss' : List Nat) : HQ G0 (G.set Sn (.dtp (sk ss'))) Lv Sn Fu st ss' fur :=
  ⟨ex0_set h.x h.h2 _, by rw [List.getElem?_set_ne (Ne.symm h.ls)]; exact h.lv, set_get h.sn, by rw [List.getElem?_set_ne (Ne.symm h.fs)]; exact h.fu, h.h1, h.h2, h.h3, h.ne⟩
end
def EnvQ (m r : Int) (Lv Sn : Nat) (s : Int) (Fu : Nat) (t d o : Option U) : Ev := [some (.int m), some (.int r), some (.ref Lv), some (.ref Sn), some (.int s), some (.ref Fu), t, d, o]
theorem psh_len (mask : Nat) : ∀ (os st : List Nat), (psh mask os st).length ≤ st.length + os.length
  | [], st => by simp [psh]
  | o :: r, st => by
    unfold psh
    have := psh_len mask r (if mask.testBit o then st else o :: st)
    split at this <;> (rename_i c; simp only [c]; simp at this ⊢; omega)
theorem psh_valid {many mask : Nat} : ∀ (os st : List Nat), (∀ o ∈ os, Vc many o) → (∀ o ∈ st, Vc many o) → ∀ o ∈ psh mask os st, Vc many o
  | [], st, _, h2 => h2
  | o :: r, st, h1, h2 => by
    unfold psh
    refine psh_valid r _ (fun q hq => h1 q (List.mem_cons_of_mem _ hq)) fun q hq => ?_
    split at hq
    · exact h2 q hq
    · rcases List.mem_cons.mp hq with rfl | hq
      · exact h1 _ List.mem_cons_self
      · exact h2 q hq
theorem push_loop {m r s : Int} {G0 G1 : Gp} {Lv Sn Fu fl mask : Nat} {st ss fur os : List Nat} {fe : Ev → Gp → R U} {G : Gp} {t d o : Option U} (hf : fe (EnvQ m r Lv Sn s Fu t d o) G = .ok (.ref fl) G1) (h : HQ G0 G1 Lv Sn Fu st ss fur) (hfl : G1[fl]? = some (.lst (os.map tU))) (hne : fl ≠ Lv) (hm : Mk ss mask) (hl : st.length + os.length < 16777216) :
    ∃ o' G2, sFor (iOf fe kSeq) (gNm 8) g__law_searched_2 (EnvQ m r Lv Sn s Fu t d o) G = .nx (EnvQ m r Lv Sn s Fu t d o') G2 ∧ HQ G0 G2 Lv Sn Fu (psh mask os st) ss fur := by
  refine sFor_ref (l := fl) (xs := os.map tU) (G1 := G1) (fun i e G' => ∃ (o' : Option U) (st' : List Nat), e = EnvQ m r Lv Sn s Fu t d o' ∧ HQ G0 G' Lv Sn Fu st' ss fur ∧ G'[fl]? = some (.lst (os.map tU)) ∧ psh mask (os.drop i) st' = psh mask os st ∧ st'.length ≤ st.length + i)
    (fun r' => ∃ o' G2, r' = .nx (EnvQ m r Lv Sn s Fu t d o') G2 ∧ HQ G0 G2 Lv Sn Fu (psh mask os st) ss fur) hf hfl (fun i e G' hI => by
      obtain ⟨_, _, _, _, z, _⟩ := hI
      exact z) ⟨o, st, rfl, h, hfl, by rw [List.drop_zero], by omega⟩ ?_ ?_
  · intro i hi e G' hI
    obtain ⟨o', st', he, h', hfl', hp, hl'⟩ := hI
    have hi' : i < os.length := by simpa using hi
    rw [List.getElem_map]
    rw [List.drop_eq_getElem_cons hi'] at hp
    generalize os[i] = q at hp ⊢
    have hp : psh mask (os.drop (i + 1)) (if mask.testBit q then st' else q :: st') = psh mask os st := hp
    have ni := nin_spec (c := q) h'.sn hm
    cases tb : mask.testBit q with
    | true =>
      rw [tb] at ni hp
      have fine : (gNm 8 (tU q) e G').andThen e (fun env1 G1 => g__law_searched_2 env1 G1) = .nx (EnvQ m r Lv Sn s Fu t d (some (tU q))) G' := by
        generalize tU q = u at ni ⊢
        subst he
        simp [EnvQ, g__law_searched_2, ni]
      rw [fine]
      exact ⟨_, st', rfl, h', hfl', hp, by omega⟩
    | false =>
      rw [tb] at ni hp
      have il := isLst_ref h'.lv
      have ap : mAppend (.ref Lv) [tU q] G' = .ok .non (G'.set Lv (.lst ((q :: st').reverse.map tU))) := by
        rw [mAppend_ref h'.lv (by simp; omega)]
        simp
      have fine : (gNm 8 (tU q) e G').andThen e (fun env1 G1 => g__law_searched_2 env1 G1) = .nx (EnvQ m r Lv Sn s Fu t d (some (tU q))) (G'.set Lv (.lst ((q :: st').reverse.map tU))) := by
        generalize (q :: st').reverse.map tU = zs at ap ⊢
        generalize tU q = u at ni ap ⊢
        subst he
        simp [EnvQ, g__law_searched_2, ni, eMeth_, il, ap]
      rw [fine]
      exact ⟨_, q :: st', rfl, h'.setLv _, by rw [List.getElem?_set_ne (Ne.symm hne)]; exact hfl', hp, by simp; omega⟩
  · intro e G' hI
    obtain ⟨o', st', he, h', hfl', hp, hl'⟩ := hI
    subst he
    rw [List.length_map, List.drop_length] at hp
    have hp : st' = psh mask os st := hp
    rw [hp] at h'
    exact ⟨o', G', rfl, h'⟩
/-- one turn -/
theorem turn_spec {many room : Nat} {m r s : Int} {G0 G : Gp} {Lv Sn Fu mask c : Nat} {st ss fur : List Nat} {t d o : Option U} (hm5 : many ≤ 5) (hmi : m = (many : Int)) (hri : r = (room : Int)) (h : HQ G0 G Lv Sn Fu (c :: st) ss fur) (hm : Mk ss mask) (hv : Vc many c) (l1 : st.length < 1000000) (l2 : ss.length < 10000000) (l3 : fur.length < 1000000) :
    (mask.testBit c = true ∧ ∃ d' o' G', g__law_searched_4 (EnvQ m r Lv Sn s Fu t d o) G = .nx (EnvQ m r Lv Sn s Fu t d' o') G' ∧ HQ G0 G' Lv Sn Fu st ss fur) ∨
    (mask.testBit c = false ∧ c % 8 = 0 ∧ ∃ G', g__law_searched_4 (EnvQ m r Lv Sn s Fu t d o) G = .ret (.int s) G' ∧ Ex0 G0 G') ∨
    (mask.testBit c = false ∧ ¬ c % 8 = 0 ∧ ∃ d' o' G', g__law_searched_4 (EnvQ m r Lv Sn s Fu t d o) G = .nx (EnvQ m r Lv Sn s Fu t d' o') G' ∧ HQ G0 G' Lv Sn Fu (psh (mask ||| 2 ^ c) (freeC many room c) st) (ss ++ [c]) (if c / 256 + 1 < many then (c + 256) :: fur else fur)) := by
  have bl : bLen [.ref Lv] G = .ok (.int ((st.length : Int) + 1)) G := by
    rw [bLen_seq (seqU_of h.lv)]
    simp
  have hb : ¬ ((st.length : Int) + 1 = 0) := by omega
  generalize (st.length : Int) + 1 = li at bl hb
  have il := isLst_ref h.lv
  have pp : mPop (.ref Lv) [] G = .ok (tU c) (G.set Lv (.lst (st.reverse.map tU))) := mPop_ref (by rw [h.lv]; simp)
  have h1 := h.setLv st
  obtain ⟨G1, hG1⟩ : ∃ G1, G1 = G.set Lv (.lst (st.reverse.map tU)) := ⟨_, rfl⟩
  rw [← hG1] at pp h1
  have ni := nin_spec (c := c) h1.sn hm
  have head : ∀ r', (sIf (bVal (eBin (gInD true true) (eVar 7) (eVar 3))) g__law_searched_3 sNil) (EnvQ m r Lv Sn s Fu t (some (tU c)) o) G1 = r' → g__law_searched_4 (EnvQ m r Lv Sn s Fu t d o) G = r' := fun r' hr => by
    rw [← hr]
    unfold g__law_searched_4
    rw [seq_nx (e' := EnvQ m r Lv Sn s Fu t d o) (G' := G) (by simp [EnvQ, bl, hb])]
    rw [seq_nx (e' := EnvQ m r Lv Sn s Fu t (some (tU c)) o) (G' := G1) (by
      generalize tU c = u at pp ⊢
      simp [EnvQ, eMeth_, il, pp])]
  cases tb : mask.testBit c with
  | true =>
    rw [tb] at ni
    refine .inl ⟨rfl, some (tU c), o, G1, head _ ?_, h1⟩
    generalize tU c = u at ni ⊢
    simp [EnvQ, ni]
  | false =>
    rw [tb] at ni
    have hns : c ∉ ss := by
      have := hm c
      rw [tb] at this
      exact of_decide_eq_false this
    have sd : setD true (.ref Sn) (tU c) (.bl true) G1 = .ok () (G1.set Sn (.dtp (sk (ss ++ [c])))) := by
      rw [setD_ref (t := true) h1.sn rfl (by rw [sk_len]; omega), sk_put hns]; rfl
    have h2 := h1.setSn (ss ++ [c])
    obtain ⟨G2, hG2⟩ : ∃ G2, G2 = G1.set Sn (.dtp (sk (ss ++ [c]))) := ⟨_, rfl⟩
    rw [← hG2] at sd h2
    have hm2 := mk_add (c := c) hm
    have i0 : ∀ G, gIdx (tU c) (.int 0) G = .ok (.int ((c / 256 : Nat) : Int)) G := fun G => gIdx_tup (atI_pos (by decide) rfl)
    have i1 : ∀ G, gIdx (tU c) (.int 1) G = .ok (.int ((c / 8 % 32 : Nat) : Int)) G := fun G => gIdx_tup (atI_pos (by decide) rfl)
    have i2 : ∀ G, gIdx (tU c) (.int 2) G = .ok (.int ((c % 8 : Nat) : Int)) G := fun G => gIdx_tup (atI_pos (by decide) rfl)
    obtain ⟨a, ha⟩ : ∃ a : Int, a = ((c / 256 : Nat) : Int) := ⟨_, rfl⟩
    obtain ⟨kp, hkp⟩ : ∃ kp : Int, kp = ((c / 8 % 32 : Nat) : Int) := ⟨_, rfl⟩
    obtain ⟨l, hl⟩ : ∃ l : Int, l = ((c % 8 : Nat) : Int) := ⟨_, rfl⟩
    have on := tU_on c
    simp only [← ha, ← hkp, ← hl] at i0 i1 i2 on
    have s1 : sAsg (eC (.bl true)) (gSubD true (eVar 3) (eVar 7)) (EnvQ m r Lv Sn s Fu t (some (tU c)) o) G1 = .nx (EnvQ m r Lv Sn s Fu t (some (tU c)) o) G2 := by
      generalize tU c = u at sd ⊢
      simp [EnvQ, gSubD, sd]
    have head2 : ∀ r', (sSeq (sIf (bVal (eBin gEq (eBin gIdx (eVar 7) (eC (.int 2))) (eC (.int 0)))) (sRet (eVar 4)) sNil) (sSeq (sIf (bVal (eBin gLt (eBin gIdx (eVar 7) (eC (.int 0))) (eBin gSub (eVar 0) (eC (.int 1))))) g__law_searched_1 sNil) (sFor (iOf (eCall F__law_free (aCons (eBin gIdx (eVar 7) (eC (.int 0))) (aCons (eBin gIdx (eVar 7) (eC (.int 1))) (aCons (eBin gIdx (eVar 7) (eC (.int 2))) (aCons (eVar 0) (aCons (eVar 1) aNil)))))) kSeq) (gNm 8) g__law_searched_2))) (EnvQ m r Lv Sn s Fu t (some (tU c)) o) G2 = r' →
        g__law_searched_4 (EnvQ m r Lv Sn s Fu t d o) G = r' := fun r' hr => head r' (by
      rw [← hr]
      have s0 : (sIf (bVal (eBin (gInD true true) (eVar 7) (eVar 3))) g__law_searched_3 sNil) (EnvQ m r Lv Sn s Fu t (some (tU c)) o) G1 = g__law_searched_3 (EnvQ m r Lv Sn s Fu t (some (tU c)) o) G1 := by
        obtain ⟨g3, hg3⟩ : ∃ g3, g3 = g__law_searched_3 := ⟨_, rfl⟩
        rw [← hg3]
        generalize tU c = u at ni ⊢
        simp [EnvQ, ni]
      rw [s0]
      unfold g__law_searched_3
      rw [seq_nx s1])
    by_cases c0 : c % 8 = 0
    · have l0 : l = 0 := by omega
      refine .inr (.inl ⟨rfl, c0, G2, head2 _ ?_, h2.x⟩)
      rw [sSeq_]
      have e0 : (sIf (bVal (eBin gEq (eBin gIdx (eVar 7) (eC (.int 2))) (eC (.int 0)))) (sRet (eVar 4)) sNil) (EnvQ m r Lv Sn s Fu t (some (tU c)) o) G2 = .ret (.int s) G2 := by
        generalize tU c = u at i2 ⊢
        simp [EnvQ, i2, l0]
      rw [e0]
    · have l0 : ¬ l = 0 := by omega
      have s2 : (sIf (bVal (eBin gEq (eBin gIdx (eVar 7) (eC (.int 2))) (eC (.int 0)))) (sRet (eVar 4)) sNil) (EnvQ m r Lv Sn s Fu t (some (tU c)) o) G2 = .nx (EnvQ m r Lv Sn s Fu t (some (tU c)) o) G2 := by
        generalize tU c = u at i2 ⊢
        simp [EnvQ, i2, l0]
      obtain ⟨G3, s3, h3⟩ : ∃ G3, (sIf (bVal (eBin gLt (eBin gIdx (eVar 7) (eC (.int 0))) (eBin gSub (eVar 0) (eC (.int 1))))) g__law_searched_1 sNil) (EnvQ m r Lv Sn s Fu t (some (tU c)) o) G2 = .nx (EnvQ m r Lv Sn s Fu t (some (tU c)) o) G3 ∧ HQ G0 G3 Lv Sn Fu st (ss ++ [c]) (if c / 256 + 1 < many then (c + 256) :: fur else fur) := by
        by_cases c1 : c / 256 + 1 < many
        · have q : a < m - 1 := by omega
          rw [if_pos c1]
          have ap : mAppend (.ref Fu) [.tup [.int (a + 1), .int kp, .int l]] G2 = .ok .non (G2.set Fu (.lst (((c + 256) :: fur).reverse.map tU))) := by
            rw [← on, mAppend_ref h2.fu (by simp; omega)]
            simp
          have il2 := isLst_ref h2.fu
          refine ⟨_, ?_, h2.setFu _⟩
          generalize ((c + 256) :: fur).reverse.map tU = zs at ap ⊢
          generalize tU c = u at i0 i1 i2 ⊢
          simp [EnvQ, i0, q, g__law_searched_1, eMeth_, il2, i1, i2, ap]
        · have q : ¬ a < m - 1 := by omega
          rw [if_neg c1]
          refine ⟨G2, ?_, h2⟩
          generalize tU c = u at i0 ⊢
          simp [EnvQ, i0, q]
      obtain ⟨fl, G4, e4, x4, a4, hfl⟩ := free_spec (room := room) (G := G3) hm5 hv ha hkp hl hmi hri
      have fl_ne : fl ≠ Lv := fun z => by
        have := (List.getElem?_eq_some_iff.mp h3.lv).1
        omega
      have fe : eCall F__law_free (aCons (eBin gIdx (eVar 7) (eC (.int 0))) (aCons (eBin gIdx (eVar 7) (eC (.int 1))) (aCons (eBin gIdx (eVar 7) (eC (.int 2))) (aCons (eVar 0) (aCons (eVar 1) aNil))))) (EnvQ m r Lv Sn s Fu t (some (tU c)) o) G3 = .ok (.ref fl) G4 := by
        generalize tU c = u at i0 i1 i2 ⊢
        simp [EnvQ, i0, i1, i2, e4]
      obtain ⟨o', G5, e5, h5⟩ := push_loop (mask := mask ||| 2 ^ c) fe (h3.ex x4) a4 fl_ne hm2 (by have := free_len (room := room) (c := c) hm5; omega)
      refine .inr (.inr ⟨rfl, c0, some (tU c), o', G5, head2 _ ?_, h5⟩)
      rw [seq_nx s2, seq_nx s3, e5]
/-- the turns of one number of steps -/
theorem inner_spec {many room : Nat} {m r s : Int} {G0 G : Gp} {Lv Sn Fu mask B : Nat} {st ss : List Nat} (hm5 : many ≤ 5) (hmi : m = (many : Int)) (hri : r = (room : Int)) {t d o : Option U} (h : HQ G0 G Lv Sn Fu st ss []) (hm : Mk ss mask) (hv : ∀ c ∈ st, Vc many c) (l1 : st.length ≤ 20001) (l2 : ss.length ≤ B) (hB : B ≤ 5000000) :
    (inn many room 20000 st mask [] = none ∧ ∃ G', sFor (iOfs (aCons (eC (.int 20000)) aNil) kRng1) (gNm 6) g__law_searched_4 (EnvQ m r Lv Sn s Fu t d o) G = .ret (.int s) G' ∧ Ex0 G0 G') ∨
    ∃ (mask' : Nat) (fur st' ss' : List Nat) (t' d' o' : Option U) (G' : Gp), inn many room 20000 st mask [] = some (mask', fur) ∧ sFor (iOfs (aCons (eC (.int 20000)) aNil) kRng1) (gNm 6) g__law_searched_4 (EnvQ m r Lv Sn s Fu t d o) G = .nx (EnvQ m r Lv Sn s Fu t' d' o') G' ∧ HQ G0 G' Lv Sn Fu st' ss' fur ∧ Mk ss' mask' ∧ (∀ c ∈ fur, Vc many c) ∧ fur.length ≤ 20000 ∧ ss'.length ≤ B + 20000 := by
  obtain ⟨v, hvv⟩ : ∃ v, v = inn many room 20000 st mask [] := ⟨_, rfl⟩
  rw [← hvv]
  refine sFor_rng1 (j := 20000) (G1 := G) (fun i e G' => ∃ (mask' : Nat) (fur st' ss' : List Nat) (t' d' o' : Option U), e = EnvQ m r Lv Sn s Fu t' d' o' ∧ HQ G0 G' Lv Sn Fu st' ss' fur ∧ Mk ss' mask' ∧ (∀ c ∈ fur, Vc many c) ∧ (∀ c ∈ st', Vc many c) ∧ fur.length ≤ i ∧ ss'.length ≤ B + i ∧ st'.length ≤ 20001 + 12 * i ∧ inn many room (20000 - i) st' mask' fur = v)
    (fun r' => (v = none ∧ ∃ G', r' = .ret (.int s) G' ∧ Ex0 G0 G') ∨ ∃ (mask' : Nat) (fur st' ss' : List Nat) (t' d' o' : Option U) (G' : Gp), v = some (mask', fur) ∧ r' = .nx (EnvQ m r Lv Sn s Fu t' d' o') G' ∧ HQ G0 G' Lv Sn Fu st' ss' fur ∧ Mk ss' mask' ∧ (∀ c ∈ fur, Vc many c) ∧ fur.length ≤ 20000 ∧ ss'.length ≤ B + 20000)
    (by simp) (by decide) (by decide) ⟨mask, [], st, ss, t, d, o, rfl, h, hm, fun c hc => absurd hc List.not_mem_nil, hv, Nat.zero_le _, by omega, by omega, hvv.symm⟩ ?_ ?_
  · intro i hi e G' hI
    obtain ⟨mask', fur, st', ss', t', d', o', he, h', hm', hvf, hvs, k1, k2, k3, hin⟩ := hI
    have hi' : i < 20000 := hi
    obtain ⟨n, hn⟩ : ∃ n, 20000 - i = n + 1 := ⟨20000 - i - 1, by omega⟩
    rw [hn] at hin
    have hn' : 20000 - (i + 1) = n := by omega
    rw [hn']
    generalize ((i : Nat) : Int) = ii
    have st0 : (gNm 6 (.int ii) e G').andThen e (fun env1 G1 => g__law_searched_4 env1 G1) = g__law_searched_4 (EnvQ m r Lv Sn s Fu (some (.int ii)) d' o') G' := by rw [he]; rfl
    rw [st0]
    cases st' with
    | nil =>
      have bl : bLen [.ref Lv] G' = .ok (.int 0) G' := by rw [bLen_seq (seqU_of h'.lv)]; rfl
      have fine : g__law_searched_4 (EnvQ m r Lv Sn s Fu (some (.int ii)) d' o') G' = .brk (EnvQ m r Lv Sn s Fu (some (.int ii)) d' o') G' := by
        simp [EnvQ, g__law_searched_4, bl]
      rw [fine]
      have hin : some (mask', fur) = v := hin
      exact .inr ⟨mask', fur, [], ss', _, _, _, G', hin.symm, rfl, h', hm', hvf, by omega, by omega⟩
    | cons c st2 =>
      have hc := hvs c List.mem_cons_self
      have hst2 : ∀ q ∈ st2, Vc many q := fun q hq => hvs q (List.mem_cons_of_mem _ hq)
      have k3' : st2.length + 1 ≤ 20001 + 12 * i := by simpa using k3
      have hin : (if mask'.testBit c then inn many room n st2 mask' fur else if c % 8 = 0 then none else inn many room n (psh (mask' ||| 2 ^ c) (freeC many room c) st2) (mask' ||| 2 ^ c) (if c / 256 + 1 < many then (c + 256) :: fur else fur)) = v := hin
      rcases turn_spec (room := room) (t := some (.int ii)) (d := d') (o := o') hm5 hmi hri h' hm' hc (by omega) (by omega) (by omega) with ⟨tb, d2, o2, G2, e2, h2⟩ | ⟨tb, c0, G2, e2, x2⟩ | ⟨tb, c0, d2, o2, G2, e2, h2⟩
      · rw [tb, if_pos rfl] at hin
        rw [e2]
        exact ⟨mask', fur, st2, ss', _, _, _, rfl, h2, hm', hvf, hst2, by omega, by omega, by omega, hin⟩
      · rw [tb, if_neg (by decide), if_pos c0] at hin
        rw [e2]
        exact .inl ⟨hin.symm, G2, rfl, x2⟩
      · rw [tb, if_neg (by decide), if_neg c0] at hin
        rw [e2]
        refine ⟨_, _, _, _, _, _, _, rfl, h2, mk_add hm', ?_, psh_valid _ _ (free_valid hm5 hc) hst2, ?_, by simp; omega, ?_, hin⟩
        · intro q hq
          split at hq
          · rename_i hlt
            rcases List.mem_cons.mp hq with rfl | hq
            · unfold Vc; omega
            · exact hvf q hq
          · exact hvf q hq
        · split
          · rw [List.length_cons]; omega
          · omega
        · have := psh_len (mask' ||| 2 ^ c) (freeC many room c) st2
          have := free_len (room := room) (c := c) hm5
          omega
  · intro e G' hI
    obtain ⟨mask', fur, st', ss', t', d', o', he, h', hm', hvf, hvs, k1, k2, k3, hin⟩ := hI
    subst he
    have k1 : fur.length ≤ 20000 := k1
    have k2 : ss'.length ≤ B + 20000 := k2
    have hin : some (mask', fur) = v := hin
    exact .inr ⟨mask', fur, st', ss', _, _, _, G', hin.symm, rfl, h', hm', hvf, k1, k2⟩
def EnvS0 (m r : Int) (Lv Sn : Nat) (s f t d o : Option U) : Ev := [some (.int m), some (.int r), some (.ref Lv), some (.ref Sn), s, f, t, d, o]
theorem searched_spec {many room : Nat} {m r : Int} {G : Gp} (hm1 : 1 ≤ many) (hm5 : many ≤ 5) (hr5 : room ≤ 5) (hmi : m = (many : Int)) (hri : r = (room : Int)) : ∃ G', F__law_searched [.int m, .int r] G = .ok (optU (need many room)) G' ∧ Ex0 G G' := by
  rw [run__law_searched, ← out_tab many (by omega) room (by omega) (by omega)]
  obtain ⟨L0, hL0⟩ : ∃ L0, L0 = G.length := ⟨_, rfl⟩
  obtain ⟨G1, hG1⟩ : ∃ G1, G1 = G ++ [OU.lst (([many] : List Nat).reverse.map tU)] := ⟨_, rfl⟩
  have x1 : Ex0 G G1 := by rw [hG1]; exact ex0_push _ _
  have a1 : G1[L0]? = some (.lst (([many] : List Nat).reverse.map tU)) := by rw [hG1, hL0]; exact push_at _ _
  obtain ⟨Sn, hSn⟩ : ∃ Sn, Sn = G1.length := ⟨_, rfl⟩
  obtain ⟨G2, hG2⟩ : ∃ G2, G2 = G1 ++ [OU.dtp (sk [])] := ⟨_, rfl⟩
  have x2 : Ex0 G1 G2 := by rw [hG2]; exact ex0_push _ _
  have a2 : G2[Sn]? = some (.dtp (sk [])) := by rw [hG2, hSn]; exact push_at _ _
  have hl1 := x1.1
  have tm : tU many = .tup [.int 0, .int 0, .int m] := by
    unfold tU
    rw [show many / 256 = 0 by omega, show many / 8 % 32 = 0 by omega, show many % 8 = many by omega, hmi]
    rfl
  obtain ⟨v, hv⟩ : ∃ v, v = out many room 60 0 [many] 0 := ⟨_, rfl⟩
  rw [← hv]
  have L : (∃ (s : Nat) (G' : Gp), v = some s ∧ sFor (iOfs (aCons (eC (.int 60)) aNil) kRng1) (gNm 4) g__law_searched_5 (EnvS0 m r L0 Sn none none none none none) G2 = .ret (.int (s : Nat)) G' ∧ Ex0 G G') ∨
      (∃ G' : Gp, v = none ∧ sFor (iOfs (aCons (eC (.int 60)) aNil) kRng1) (gNm 4) g__law_searched_5 (EnvS0 m r L0 Sn none none none none none) G2 = .ret .non G' ∧ Ex0 G G') ∨
      (∃ (e' : Ev) (G' : Gp), v = none ∧ sFor (iOfs (aCons (eC (.int 60)) aNil) kRng1) (gNm 4) g__law_searched_5 (EnvS0 m r L0 Sn none none none none none) G2 = .nx e' G' ∧ Ex0 G G') := by
    refine sFor_rng1 (j := 60) (G1 := G2) (fun i e G' => ∃ (Lv : Nat) (st ss : List Nat) (mask : Nat) (s f t d o : Option U), e = EnvS0 m r Lv Sn s f t d o ∧ Ex0 G G' ∧ G.length ≤ Lv ∧ G'[Lv]? = some (.lst (st.reverse.map tU)) ∧ G'[Sn]? = some (.dtp (sk ss)) ∧ Mk ss mask ∧ (∀ c ∈ st, Vc many c) ∧ st.length ≤ 20001 ∧ ss.length ≤ 20000 * i ∧ out many room (60 - i) i st mask = v)
      (fun r' => (∃ (s : Nat) (G' : Gp), v = some s ∧ r' = .ret (.int (s : Nat)) G' ∧ Ex0 G G') ∨ (∃ G' : Gp, v = none ∧ r' = .ret .non G' ∧ Ex0 G G') ∨ (∃ (e' : Ev) (G' : Gp), v = none ∧ r' = .nx e' G' ∧ Ex0 G G'))
      (by simp) (by decide) (by decide) ⟨L0, [many], [], 0, none, none, none, none, none, rfl, x1.trans x2, by omega, x2.at_ a1, a2, mk_nil, fun c hc => by rw [List.mem_singleton] at hc; unfold Vc; omega, by simp, by simp, hv.symm⟩ ?_ ?_
    · intro i hi e G' hI
      obtain ⟨Lv, st, ss, mask, s0, f, t, d, o, he, x, hLv, lv, sn, hm, hvs, l1, l2, ho⟩ := hI
      have hi' : i < 60 := hi
      obtain ⟨n, hn⟩ : ∃ n, 60 - i = n + 1 := ⟨60 - i - 1, by omega⟩
      rw [hn] at ho
      have hn' : 60 - (i + 1) = n := by omega
      rw [hn']
      obtain ⟨si, hsi⟩ : ∃ si : Int, si = (i : Int) := ⟨_, rfl⟩
      rw [← hsi]
      obtain ⟨Fu, hFu⟩ : ∃ Fu, Fu = G'.length := ⟨_, rfl⟩
      obtain ⟨G3, hG3⟩ : ∃ G3, G3 = G' ++ [OU.lst (([] : List Nat).reverse.map tU)] := ⟨_, rfl⟩
      have x3 : Ex0 G' G3 := by rw [hG3]; exact ex0_push _ _
      have a3 : G3[Fu]? = some (.lst (([] : List Nat).reverse.map tU)) := by rw [hG3, hFu]; exact push_at _ _
      have hlt := (List.getElem?_eq_some_iff.mp lv).1
      have hx := x.1
      have hSnl : G.length ≤ Sn := by omega
      have h3 : HQ G G3 Lv Sn Fu st ss [] := ⟨x.trans x3, x3.at_ lv, x3.at_ sn, a3, hLv, hSnl, by omega, by omega⟩
      have head : ∀ r', (sSeq (sFor (iOfs (aCons (eC (.int 20000)) aNil) kRng1) (gNm 6) g__law_searched_4) (sSeq (sAsg (eVar 5) (gNm 2)) (sIf (bVal (eBin gEq (eCall bLen (aCons (eVar 2) aNil)) (eC (.int 0)))) (sRet (eC .non)) sNil))) (EnvQ m r Lv Sn si Fu t d o) G3 = r' →
          (gNm 4 (.int si) e G').andThen e (fun env1 G1 => g__law_searched_5 env1 G1) = r' := fun r' hr => by
        rw [← hr, gNm_, r_then_ok, he]
        show g__law_searched_5 (EnvS0 m r Lv Sn (some (.int si)) f t d o) G' = _
        unfold g__law_searched_5
        rw [seq_nx (e' := EnvQ m r Lv Sn si Fu t d o) (G' := G3) (by simp [EnvS0, EnvQ, hG3, hFu])]
      have ho : (match inn many room 20000 st mask [] with
        | none => some i
        | some (mask', fur) => if fur.isEmpty then none else out many room n (i + 1) fur mask') = v := ho
      rcases inner_spec (room := room) (s := si) (t := t) (d := d) (o := o) (B := 20000 * i) hm5 hmi hri h3 hm hvs l1 l2 (by omega) with ⟨hin, G4, e4, x4⟩ | ⟨mask', fur, st', ss', t', d', o', G4, hin, e4, h4, hm', hvf, k1, k2⟩
      · rw [hin] at ho
        have ho : some i = v := ho
        rw [head _ (by rw [sSeq_, e4])]
        exact .inl ⟨i, G4, ho.symm, by rw [hsi], x4⟩
      · rw [hin] at ho
        have ho : (if fur.isEmpty then none else out many room n (i + 1) fur mask') = v := ho
        have bl : bLen [.ref Fu] G4 = .ok (.int (fur.length : Nat)) G4 := by rw [bLen_seq (seqU_of h4.fu)]; simp
        obtain ⟨li, hli⟩ : ∃ li : Int, li = ((fur.length : Nat) : Int) := ⟨_, rfl⟩
        rw [← hli] at bl
        by_cases c : li = 0
        · have hf : fur = [] := List.length_eq_zero_iff.mp (by omega)
          rw [hf] at ho
          have ho : none = v := ho
          rw [head (.ret .non G4) (by
            rw [seq_nx e4, seq_nx (e' := EnvQ m r Fu Sn si Fu t' d' o') (G' := G4) (by simp [EnvQ])]
            simp [EnvQ, bl, c])]
          exact .inr (.inl ⟨G4, ho.symm, rfl, h4.x⟩)
        · have hf : fur.isEmpty = false := by
            cases fur with
            | nil => exact absurd (by rw [hli]; rfl) c
            | cons _ _ => rfl
          rw [hf, if_neg (by decide)] at ho
          rw [head (.nx (EnvQ m r Fu Sn si Fu t' d' o') G4) (by
            rw [seq_nx e4, seq_nx (e' := EnvQ m r Fu Sn si Fu t' d' o') (G' := G4) (by simp [EnvQ])]
            simp [EnvQ, bl, c])]
          exact ⟨Fu, fur, ss', mask', some (.int si), some (.ref Fu), t', d', o', rfl, h4.x, h4.h3, h4.fu, h4.sn, hm', hvf, by omega, by omega, ho⟩
    · intro e G' hI
      obtain ⟨Lv, st, ss, mask, s0, f, t, d, o, he, x, hLv, lv, sn, hm, hvs, l1, l2, ho⟩ := hI
      have ho : none = v := ho
      exact .inr (.inr ⟨e, G', ho.symm, rfl, x⟩)
  have head : ∀ r', fin (sSeq (sFor (iOfs (aCons (eC (.int 60)) aNil) kRng1) (gNm 4) g__law_searched_5) (sRet (eC .non)) (EnvS0 m r L0 Sn none none none none none) G2) = r' → fin (g__law_searched [some (.int m), some (.int r), none, none, none, none, none, none, none] G) = r' := fun r' hr => by
    rw [← hr]
    unfold g__law_searched
    have hg : G ++ [OU.lst [.tup [.int 0, .int 0, .int m]]] = G1 := by rw [hG1, ← tm]; rfl
    rw [seq_nx (e' := [some (.int m), some (.int r), some (.ref L0), none, none, none, none, none, none]) (G' := G1) (by simp [hg, hL0])]
    have dn : sAsg (eDict0 true) (gNm 3) [some (.int m), some (.int r), some (.ref L0), none, none, none, none, none, none] G1 = .nx (EnvS0 m r L0 Sn none none none none none) G2 := by
      rw [sAsg_, hG2, hSn]
      rfl
    rw [seq_nx dn]
  rcases L with ⟨s, G', hvv, e, x⟩ | ⟨G', hvv, e, x⟩ | ⟨e', G', hvv, e, x⟩
  · exact ⟨G', head _ (by rw [sSeq_, e, hvv]; rfl), x⟩
  · exact ⟨G', head _ (by rw [sSeq_, e, hvv]; rfl), x⟩
  · exact ⟨G', head _ (by rw [seq_nx e, hvv]; rfl), x⟩
end K96

set_option Elab.async false
set_option linter.all false
set_option maxRecDepth 100000
set_option maxHeartbeats 4000000
set_option autoImplicit false
namespace K96
open PySem PySem.Spec L2 FL
/-! ### tried -/
theorem sTry_nx {t : List (Str × List Str)} {b : Ev → Gp → SR} {h : List Hd} {env e' : Ev} {G G' : Gp} (hb : b env G = .nx e' G') : sTry t b h env G = .nx e' G' := by
  unfold sTry
  rw [hb]
theorem ltried_ok {u v x : U} {G : Gp} (h : F_least_on [u, v] G = .ok x G) : F__law_least_tried [u, v] G = .ok (.ref G.length) (G ++ [.lst [.str "told", x]]) := by
  rw [run__law_least_tried]
  have e : g__law_least_tried_1 [some u, some v, none, none] G = .nx [some u, some v, some x, none] G := by simp [g__law_least_tried_1, h]
  unfold g__law_least_tried
  rw [seq_nx (sTry_nx e)]
  simp
theorem wtried_ok {u v x : U} {G G' : Gp} (h : F_walk [u, v] G = .ok x G') : F__law_walk_tried [u, v] G = .ok (.ref G'.length) (G' ++ [.lst [.str "told", x]]) := by
  rw [run__law_walk_tried]
  have e : g__law_walk_tried_1 [some u, some v, none, none] G = .nx [some u, some v, some x, none] G' := by simp [g__law_walk_tried_1, h]
  unfold g__law_walk_tried
  rw [seq_nx (sTry_nx e)]
  simp
theorem ltried_bad {u v x : U} {G : Gp} (h : F_least_on [u, v] G = .exc "InvalidNumber" [("number", x)] G) : F__law_least_tried [u, v] G = .ok (.ref G.length) (G ++ [.lst [.str "number", x]]) := by
  rw [run__law_least_tried]
  have e : g__law_least_tried_1 [some u, some v, none, none] G = .exc "InvalidNumber" [("number", x)] [some u, some v, none, none] G := by simp [g__law_least_tried_1, h]
  unfold g__law_least_tried sSeq sTry
  rw [e]
  rfl
theorem wtried_bad {u v x : U} {G : Gp} (h : F_walk [u, v] G = .exc "InvalidNumber" [("number", x)] G) : F__law_walk_tried [u, v] G = .ok (.ref G.length) (G ++ [.lst [.str "number", x]]) := by
  rw [run__law_walk_tried]
  have e : g__law_walk_tried_1 [some u, some v, none, none] G = .exc "InvalidNumber" [("number", x)] [some u, some v, none, none] G := by simp [g__law_walk_tried_1, h]
  unfold g__law_walk_tried sSeq sTry
  rw [e]
  rfl
theorem wtried_what {u v x : U} {G : Gp} (h : F_walk [u, v] G = .exc "Undefined" [("what", x)] G) : F__law_walk_tried [u, v] G = .ok (.ref G.length) (G ++ [.lst [.str "what", x]]) := by
  rw [run__law_walk_tried]
  have e : g__law_walk_tried_1 [some u, some v, none, none] G = .exc "Undefined" [("what", x)] [some u, some v, none, none] G := by simp [g__law_walk_tried_1, h]
  unfold g__law_walk_tried sSeq sTry
  rw [e]
  rfl
/-! ### is it the least -/
theorem isB_opt (o : Option Nat) (G : Gp) : isRes tbBool (optU o) G = .ok (.bl false) G := by cases o <;> rfl
theorem eq_opt (o : Option Nat) (G : Gp) : FL.eqU G (optU o) (optU o) = some true := by
  cases o with
  | none => rfl
  | some x => show some (decide ((x : Int) = (x : Int))) = some true; simp
theorem val_walk : Val (.str "walk") := ⟨.str "walk", fun _ => rfl, by decide +kernel, by decide, by decide +kernel, fun l h => nomatch h⟩
theorem walk_none {m r : Nat} {mi ri : Int} (m1 : 1 ≤ m) (m2 : m ≤ 40) (r2 : r ≤ 40) (hm : mi = (m : Int)) (hr : ri = (r : Int)) (hx : need m r = none) (G : Gp) : F_walk [.int mi, .int ri] G = .exc "Undefined" [("what", .str "walk")] G := by
  rw [run_walk]
  have ck := chain_ok m1 m2 r2 hm hr G
  have o := on_spec m1 m2 r2 hm hr G
  rw [hx] at o
  have o : F_on_needed [.int mi, .int ri] G = .ok .non G := o
  simp [g_walk, g_walk_1, ck, o, sRaise]
def EnvI (m r : Int) (d : U) (t w : Option U) : Ev := [some (.int m), some (.int r), some d, t, w]
theorem is_least_spec {m r : Nat} {mi ri : Int} {G : Gp} (m1 : 1 ≤ m) (m2 : m ≤ 40) (r2 : r ≤ 40) (hm : mi = (m : Int)) (hr : ri = (r : Int)) : ∃ G', F__law_is_least [.int mi, .int ri, optU (need m r)] G = .ok (.bl true) G' ∧ Ex0 G G' := by
  rw [run__law_is_least]
  have e1 := ltried_ok (least_on_spec m1 m2 r2 hm hr G)
  obtain ⟨due, hdue⟩ : ∃ due, due = optU (need m r) := ⟨_, rfl⟩
  rw [← hdue] at e1 ⊢
  obtain ⟨T1, hT1⟩ : ∃ T1, T1 = G.length := ⟨_, rfl⟩
  obtain ⟨G1, hG1⟩ : ∃ G1, G1 = G ++ [OU.lst [.str "told", due]] := ⟨_, rfl⟩
  rw [← hG1, ← hT1] at e1
  have x1 : Ex0 G G1 := by rw [hG1]; exact ex0_push _ _
  have a1 : G1[T1]? = some (.lst [.str "told", due]) := by rw [hG1, hT1]; exact push_at _ _
  have i0 : gIdx (.ref T1) (.int 0) G1 = .ok (.str "told") G1 := gIdx_ref a1 (atI_pos (by decide) rfl)
  have i1 : gIdx (.ref T1) (.int 1) G1 = .ok due G1 := gIdx_ref a1 (atI_pos (by decide) rfl)
  have b1 : isRes tbBool due G1 = .ok (.bl false) G1 := by rw [hdue]; exact isB_opt _ _
  have q1 : FL.eqU G1 due due = some true := by rw [hdue]; exact eq_opt _ _
  have qs : ∀ G, FL.eqU G (.str "told") (.str "told") = some true := fun G => rfl
  have s2 : sIf (tOrB (bVal (eBin gNe (eBin gIdx (eVar 3) (eC (.int 0))) (eC (.str ("told" : Str))))) (tOrB (bVal (eIs tbBool (eBin gIdx (eVar 3) (eC (.int 1))))) (bVal (eBin gNe (eBin gIdx (eVar 3) (eC (.int 1))) (eVar 2))))) (sRet (eC (.bl false))) sNil (EnvI mi ri due (some (.ref T1)) none) G1 = .nx (EnvI mi ri due (some (.ref T1)) none) G1 := by
    simp [EnvI, i0, i1, b1, q1]
  have head : ∀ (r' : R U), fin ((sSeq (sAsg (eCall F__law_walk_tried (aCons (eVar 0) (aCons (eVar 1) aNil))) (gNm 3)) (sSeq (sIf (bVal (eBin gIsN (eVar 2) (eC .non))) g__law_is_least_1 sNil) (sSeq (sIf (tOrB (bVal (eBin gNe (eBin gIdx (eVar 3) (eC (.int 0))) (eC (.str ("told" : Str))))) (tNotB (bVal (eIs tbTup (eBin gIdx (eVar 3) (eC (.int 1))))))) (sRet (eC (.bl false))) sNil) (sSeq (sAsg (eCall F__law_walked (aCons (eBin gIdx (eVar 3) (eC (.int 1))) (aCons (eVar 0) (aCons (eVar 1) aNil)))) (gNm 4)) (sRet (eAnd (eBin gNotN (eVar 4) (eC .non)) (eBin gEq (eBin gIdx (eVar 4) (eC (.int 0))) (eVar 2)))))))) (EnvI mi ri due (some (.ref T1)) none) G1) = r' →
      fin (g__law_is_least [some (.int mi), some (.int ri), some due, none, none] G) = r' := fun r' h => by
    rw [← h]
    unfold g__law_is_least
    rw [seq_nx (e' := EnvI mi ri due (some (.ref T1)) none) (G' := G1) (by simp [EnvI, e1]), seq_nx s2]
  cases q : need m r with
  | none =>
    rw [q] at hdue
    have hdue : due = .non := hdue
    have e3 := wtried_what (walk_none m1 m2 r2 hm hr q G1)
    obtain ⟨T3, hT3⟩ : ∃ T3, T3 = G1.length := ⟨_, rfl⟩
    obtain ⟨G3, hG3⟩ : ∃ G3, G3 = G1 ++ [OU.lst [.str "what", .str "walk"]] := ⟨_, rfl⟩
    rw [← hG3, ← hT3] at e3
    have x3 : Ex0 G1 G3 := by rw [hG3]; exact ex0_push _ _
    have a3 : G3[T3]? = some (.lst [.str "what", .str "walk"]) := by rw [hG3, hT3]; exact push_at _ _
    obtain ⟨G4, hG4⟩ : ∃ G4, G4 = G3 ++ [OU.lst [.str "what", .str "walk"]] := ⟨_, rfl⟩
    have x4 : Ex0 G3 G4 := by rw [hG4]; exact ex0_push _ _
    have a4 : G4[G3.length]? = some (.lst [.str "what", .str "walk"]) := by rw [hG4]; exact push_at _ _
    have q4 := eqU_l2 (z := "what") (x := .str "walk") (by decide +kernel) (x4.at_ a3) a4 val_walk
    refine ⟨G4, head _ ?_, (x1.trans x3).trans x4⟩
    subst hdue
    rw [seq_nx (e' := EnvI mi ri .non (some (.ref T3)) none) (G' := G3) (by simp [EnvI, e3])]
    simp [EnvI, g__law_is_least_1, ← hG4, q4]
  | some x =>
    rw [q] at hdue
    have hdue : due = .int (x : Nat) := hdue
    obtain ⟨c, ds, G2, e2, x2, hc, hrun⟩ := walk_spec m1 m2 r2 hm hr q G1
    have e3 := wtried_ok e2
    obtain ⟨v, hv⟩ : ∃ v, v = U.tup (ds.map dU) := ⟨_, rfl⟩
    rw [← hv] at e3
    obtain ⟨T3, hT3⟩ : ∃ T3, T3 = G2.length := ⟨_, rfl⟩
    obtain ⟨G3, hG3⟩ : ∃ G3, G3 = G2 ++ [OU.lst [.str "told", v]] := ⟨_, rfl⟩
    rw [← hG3, ← hT3] at e3
    have x3 : Ex0 G2 G3 := by rw [hG3]; exact ex0_push _ _
    have a3 : G3[T3]? = some (.lst [.str "told", v]) := by rw [hG3, hT3]; exact push_at _ _
    have j0 : gIdx (.ref T3) (.int 0) G3 = .ok (.str "told") G3 := gIdx_ref a3 (atI_pos (by decide) rfl)
    have j1 : gIdx (.ref T3) (.int 1) G3 = .ok v G3 := gIdx_ref a3 (atI_pos (by decide) rfl)
    have it : isRes tbTup v G3 = .ok (.bl true) G3 := by rw [hv]; rfl
    obtain ⟨l, G5, mo, e5, x5, a5⟩ := walked_spec (Ni := mi) (Ri := ri) hm hr (by omega) hrun G3
    rw [← hv] at e5
    have i5 : gIdx (.ref l) (.int 0) G5 = .ok (.int (c : Nat)) G5 := gIdx_ref a5 (atI_pos (by decide) rfl)
    rw [hc] at i5
    obtain ⟨xi, hxi⟩ : ∃ xi : Int, xi = (x : Int) := ⟨_, rfl⟩
    rw [← hxi] at i5 hdue
    refine ⟨G5, head _ ?_, ((x1.trans x2).trans x3).trans x5⟩
    subst hdue
    rw [seq_nx (e' := EnvI mi ri (.int xi) (some (.ref T3)) none) (G' := G3) (by simp [EnvI, e3]), seq_nx (e' := EnvI mi ri (.int xi) (some (.ref T3)) none) (G' := G3) (by simp [EnvI]), seq_nx (e' := EnvI mi ri (.int xi) (some (.ref T3)) none) (G' := G3) (by simp [EnvI, j0, j1, it]), seq_nx (e' := EnvI mi ri (.int xi) (some (.ref T3)) (some (.ref l))) (G' := G5) (by simp [EnvI, j1, e5])]
    simp [EnvI, i5]
/-! ### numbers that are none -/
theorem Val.nr {v : U} (h : Val v) : noRef v := by
  obtain ⟨d, p⟩ := h
  exact p.nr
theorem inR_is {v : U} {lo up : Int} (h : inR v lo up = true) : ∃ i, v = .int i ∧ lo ≤ i ∧ i ≤ up := by
  cases v with
  | int i =>
    simp [inR] at h
    exact ⟨i, rfl, h.1, h.2⟩
  | _ => exact nomatch h
def wrongs (v w : U) : List U := if inR v 1 40 = false then [v] else if inR w 0 40 = false then [w] else []
theorem wrong_first {v : U} (h : noRef v) (env : Ev) (G : Gp) (h0 : env[0]? = some (some v)) : (tOrB (tNotB (bVal (eCall F__law_is_number (aCons (eVar 0) aNil)))) (tOrB (bVal (eBin gLt (eVar 0) (eC (.int 1)))) (bVal (eBin gGt (eVar 0) (eC (.int 40)))))) env G = .ok (!inR v 1 40) G := by
  have n := is_number_spec h G
  cases v with
  | int i =>
    by_cases h1 : 0 ≤ i
    · simp only [decide_eq_true h1] at n
      by_cases h2 : i < 1
      · have : ¬ 1 ≤ i := by omega
        simp [h0, n, inR, h2]
      · have h3 : 1 ≤ i := by omega
        by_cases h4 : 40 < i
        · have : ¬ i ≤ 40 := by omega
          simp [h0, n, inR, h2, h4]
        · have : i ≤ 40 := by omega
          simp [h0, n, inR, h2, h4, h3, this]
    · simp only [decide_eq_false h1] at n
      have h2 : ¬ 1 ≤ i := by omega
      simp [h0, n, inR, h2]
  | _ =>
    simp only at n
    simp [h0, n, inR]
theorem wrong_second {v : U} (h : noRef v) (env : Ev) (G : Gp) (h0 : env[1]? = some (some v)) : (tOrB (tNotB (bVal (eCall F__law_is_number (aCons (eVar 1) aNil)))) (bVal (eBin gGt (eVar 1) (eC (.int 40))))) env G = .ok (!inR v 0 40) G := by
  have n := is_number_spec h G
  cases v with
  | int i =>
    by_cases h1 : 0 ≤ i
    · simp only [decide_eq_true h1] at n
      by_cases h4 : 40 < i
      · have : ¬ i ≤ 40 := by omega
        simp [h0, n, inR, h4]
      · have : i ≤ 40 := by omega
        simp [h0, n, inR, h4, h1, this]
    · simp only [decide_eq_false h1] at n
      simp [h0, n, inR, h1]
  | _ =>
    simp only at n
    simp [h0, n, inR]
theorem wrong_spec {v w : U} (hv : noRef v) (hw : noRef w) (G : Gp) : F__law_wrong [v, w] G = .ok (.ref G.length) (G ++ [.lst (wrongs v w)]) := by
  rw [run__law_wrong]
  have f1 := wrong_first hv [some v, some w] G rfl
  have f2 := wrong_second hw [some v, some w] G rfl
  unfold wrongs
  unfold g__law_wrong
  obtain ⟨t1, ht1⟩ : ∃ t1, t1 = (tOrB (tNotB (bVal (eCall F__law_is_number (aCons (eVar 0) aNil)))) (tOrB (bVal (eBin gLt (eVar 0) (eC (.int 1)))) (bVal (eBin gGt (eVar 0) (eC (.int 40)))))) := ⟨_, rfl⟩
  obtain ⟨t2, ht2⟩ : ∃ t2, t2 = (tOrB (tNotB (bVal (eCall F__law_is_number (aCons (eVar 1) aNil)))) (bVal (eBin gGt (eVar 1) (eC (.int 40))))) := ⟨_, rfl⟩
  rw [← ht1] at f1 ⊢
  rw [← ht2] at f2 ⊢
  cases c1 : inR v 1 40 with
  | false =>
    rw [c1] at f1
    simp [f1]
  | true =>
    rw [c1] at f1
    cases c2 : inR w 0 40 with
    | false =>
      rw [c2] at f2
      simp [f1, f2]
    | true =>
      rw [c2] at f2
      simp [f1, f2]
theorem chain_bad {v w : U} (hv : noRef v) (hw : noRef w) (G : Gp) : ∀ x r, wrongs v w = x :: r → r = [] ∧ F_check_chain [v, w] G = .exc "InvalidNumber" [("number", x)] G := by
  intro x r h
  rw [run_check_chain]
  unfold wrongs at h
  cases c1 : inR v 1 40 with
  | false =>
    rw [if_pos c1] at h
    cases h
    have c := check_number_bad hv G c1
    exact ⟨rfl, by simp [g_check_chain, c]⟩
  | true =>
    rw [if_neg (by rw [c1]; decide)] at h
    have c := check_number_ok hv G c1
    cases c2 : inR w 0 40 with
    | false =>
      rw [if_pos c2] at h
      cases h
      have c' := check_number_bad hw G c2
      exact ⟨rfl, by simp [g_check_chain, c, c']⟩
    | true =>
      rw [if_neg (by rw [c2]; decide)] at h
      exact nomatch h
theorem wrongs_nil {v w : U} (h : wrongs v w = []) : inR v 1 40 = true ∧ inR w 0 40 = true := by
  unfold wrongs at h
  cases c1 : inR v 1 40 with
  | false => rw [if_pos c1] at h; exact nomatch h
  | true =>
    rw [if_neg (by rw [c1]; decide)] at h
    cases c2 : inR w 0 40 with
    | false => rw [if_pos c2] at h; exact nomatch h
    | true => exact ⟨rfl, rfl⟩
theorem refused_spec {T W : Nat} {x : U} {G : Gp} (hx : Val x) (h : G[T]? = some (.lst [.str "number", x])) (hw : G[W]? = some (.lst [x])) : ∃ G', F__law_refused [.ref T, .ref W] G = .ok (.bl true) G' ∧ Ex0 G G' := by
  rw [run__law_refused]
  obtain ⟨G1, hG1⟩ : ∃ G1, G1 = G ++ [OU.lst [.str "number", x]] := ⟨_, rfl⟩
  have x1 : Ex0 G G1 := by rw [hG1]; exact ex0_push _ _
  have a1 : G1[G.length]? = some (.lst [.str "number", x]) := by rw [hG1]; exact push_at _ _
  have q := eqU_l2 (z := "number") (x := x) (by decide +kernel) (x1.at_ h) a1 hx
  have ix : gIdx (.ref T) (.int 1) G = .ok x G := gIdx_ref h (atI_pos (by decide) rfl)
  have iw : gIdx (.ref W) (.int 0) G = .ok x G := gIdx_ref hw (atI_pos (by decide) rfl)
  have ib : isRes tbBool x G = .ok (.bl (isB x)) G := isRes_of (tyN_of hx.nr) (lkBool x)
  exact ⟨G1, by simp [g__law_refused, ix, iw, ib, ← hG1, q], x1⟩
end K96

set_option Elab.async false
set_option linter.all false
set_option maxRecDepth 100000
set_option maxHeartbeats 4000000
set_option autoImplicit false
namespace K96
open PySem PySem.Spec L2 FL
/-! ### the law -/
theorem pick_mem {xs : List U} {r : Int} {l : Nat} {G : Gp} (h0 : 0 ≤ r) (h1 : r < (xs.length : Int)) (h : G[l]? = some (.lst xs)) : ∃ v, v ∈ xs ∧ gIdx (.ref l) (.int r) G = .ok v G := by
  have hr : r.toNat < xs.length := by omega
  exact ⟨xs[r.toNat], List.getElem_mem hr, gIdx_ref h (atI_pos h0 (List.getElem?_eq_getElem hr))⟩
/-- a number out of a written list, drawn -/
theorem drawn_of {G : Gp} (xs : List U) {n : Int} (hn : n = (xs.length : Int)) (h1 : 0 < n) (h2 : n < 1000000) (hD : Dr G) : ∃ (r : Int) (v : U) (G2 : Gp), v ∈ xs ∧ F__law_draw [.ref 2, .int n] (G ++ [.lst xs]) = .ok (.int r) G2 ∧ gIdx (.ref G.length) (.int r) G2 = .ok v G2 ∧ Dr G2 ∧ Ext G G2 := by
  have hl := hD.len
  have x1 : Ex0 G (G ++ [OU.lst xs]) := ex0_push _ _
  obtain ⟨r, G2, e2, p2, q2, o2, d2⟩ := draw_spec (m := n) (x1.dr hD) h1 h2
  obtain ⟨v, hv, iv⟩ := pick_mem (xs := xs) p2 (by omega) (o2.ext.at_ hl (push_at _ _))
  exact ⟨r, v, G2, hv, e2, iv, d2, x1.ext.trans o2.ext⟩
def EnvA (xs : List U) (m r d p a w : Option U) : Ev := [some (.rl xs), some (.ref 2), m, r, d, p, a, w]
theorem least_small {m r : Nat} {mi ri : Int} {G : Gp} (m1 : 1 ≤ m) (m2 : m ≤ 5) (r2 : r ≤ 5) (hm : mi = (m : Int)) (hr : ri = (r : Int)) : ∃ G' G'', F__law_searched [.int mi, .int ri] G = .ok (optU (need m r)) G' ∧ F__law_is_least [.int mi, .int ri, optU (need m r)] G' = .ok (.bl true) G'' ∧ Ex0 G G'' := by
  obtain ⟨G', e1, x1⟩ := searched_spec (G := G) m1 m2 r2 hm hr
  obtain ⟨G'', e2, x2⟩ := is_least_spec (G := G') m1 (by omega) (by omega) hm hr
  exact ⟨G', G'', e1, e2, x1.trans x2⟩
theorem law_true (ns : List Int) (h1 : ns.length ≤ 63) (h2 : ∀ z ∈ ns, Builtin.Int.intBits z ≤ 1048576) : ∃ G', F_law [.rl (ns.map U.int)] [] = .ok (.bl true) G' := by
  rw [run_law]
  obtain ⟨G1, e1, d1, _⟩ := box_spec h1
  generalize hxs : ns.map U.int = xs at e1
  -- a small chain
  obtain ⟨q2, v2, G2, hv2, e2, i2, d2, _⟩ := drawn_of [.int 1, .int 2, .int 3, .int 3, .int 4, .int 4, .int 4, .int 5] (n := 8) rfl (by decide) (by decide) d1
  obtain ⟨m2, hm2, hm2a, hm2b⟩ : ∃ m2 : Nat, v2 = .int (m2 : Int) ∧ 1 ≤ m2 ∧ m2 ≤ 5 := by
    simp only [List.mem_cons, List.not_mem_nil, or_false] at hv2
    rcases hv2 with rfl | rfl | rfl | rfl | rfl | rfl | rfl | rfl
    · exact ⟨1, rfl, by omega, by omega⟩
    · exact ⟨2, rfl, by omega, by omega⟩
    · exact ⟨3, rfl, by omega, by omega⟩
    · exact ⟨3, rfl, by omega, by omega⟩
    · exact ⟨4, rfl, by omega, by omega⟩
    · exact ⟨4, rfl, by omega, by omega⟩
    · exact ⟨4, rfl, by omega, by omega⟩
    · exact ⟨5, rfl, by omega, by omega⟩
  obtain ⟨mi2, hmi2⟩ : ∃ mi2 : Int, mi2 = (m2 : Int) := ⟨_, rfl⟩
  rw [← hmi2] at hm2
  subst hm2
  obtain ⟨r3, G3, e3, p3, q3, o3, d3⟩ := draw_spec (m := 6) d2 (by decide) (by decide)
  have hr3 : r3 = ((r3.toNat : Nat) : Int) := by omega
  obtain ⟨G4, G5, e4, e5, x5⟩ := least_small (G := G3) hm2a hm2b (r := r3.toNat) (by omega) hmi2 hr3
  have el := least_spec (m := m2) (r := r3.toNat) (by omega) (by omega) (by omega) hmi2 hr3 G4
  have qd := eq_opt (need m2 r3.toNat) G4
  obtain ⟨du, hdu⟩ : ∃ du, du = optU (need m2 r3.toNat) := ⟨_, rfl⟩
  rw [← hdu] at e4 e5 el qd
  have d5 := x5.dr d3
  -- a chain
  obtain ⟨q6, G6, e6, p6, r6, o6, d6⟩ := draw_spec (m := 40) d5 (by decide) (by decide)
  obtain ⟨mi, hmi⟩ : ∃ mi, mi = 1 + q6 := ⟨_, rfl⟩
  have hm : mi = ((mi.toNat : Nat) : Int) := by omega
  obtain ⟨q7, v7, G7, hv7, e7, i7, d7, _⟩ := drawn_of [.int 4, .int 7, .int 41] (n := 3) rfl (by decide) (by decide) d6
  obtain ⟨c7, hc7, hc7a, hc7b⟩ : ∃ c7 : Int, v7 = .int c7 ∧ 1 ≤ c7 ∧ c7 ≤ 41 := by
    simp only [List.mem_cons, List.not_mem_nil, or_false] at hv7
    rcases hv7 with rfl | rfl | rfl
    · exact ⟨4, rfl, by omega, by omega⟩
    · exact ⟨7, rfl, by omega, by omega⟩
    · exact ⟨41, rfl, by omega, by omega⟩
  subst hc7
  obtain ⟨ri, G8, e8, p8, r8, o8, d8⟩ := draw_spec (m := c7) d7 (by omega) (by omega)
  have hr : ri = ((ri.toNat : Nat) : Int) := by omega
  have el8 := least_spec (m := mi.toNat) (r := ri.toNat) (by omega) (by omega) (by omega) hm hr G8
  obtain ⟨G9, e9, x9⟩ := is_least_spec (m := mi.toNat) (r := ri.toNat) (G := G8) (by omega) (by omega) (by omega) hm hr
  have d9 := x9.dr d8
  generalize optU (need mi.toNat ri.toNat) = le8 at el8 e9
  -- the pair
  obtain ⟨qa, va, Ga, hva, ea, ia, da, _⟩ := drawn_of [.int 1, .int 2, .int 40, .int mi] (n := 4) rfl (by decide) (by decide) d9
  have vva : Val va := by
    simp only [List.mem_cons, List.not_mem_nil, or_false] at hva
    rcases hva with rfl | rfl | rfl | rfl <;> exact ⟨_, pd_int _⟩
  obtain ⟨qb, vb, Gb, hvb, eb, ib, db, _⟩ := drawn_of [.int 0, .int 1, .int 40, .int ri] (n := 4) rfl (by decide) (by decide) da
  have vvb : Val vb := by
    simp only [List.mem_cons, List.not_mem_nil, or_false] at hvb
    rcases hvb with rfl | rfl | rfl | rfl <;> exact ⟨_, pd_int _⟩
  obtain ⟨P, hP⟩ : ∃ P, P = Gb.length := ⟨_, rfl⟩
  have hP2 : 2 < P := by rw [hP]; exact db.len
  obtain ⟨Gc, hGc⟩ : ∃ Gc, Gc = Gb ++ [OU.lst [va, vb]] := ⟨_, rfl⟩
  have xc : Ex0 Gb Gc := by rw [hGc]; exact ex0_push _ _
  have ac : Gc[P]? = some (.lst [va, vb]) := by rw [hGc, hP]; exact push_at _ _
  obtain ⟨k, Gd, ed, pd, qd', od, dd⟩ := draw_spec (m := 3) (xc.dr db) (by decide) (by decide)
  have ad := od.ext.at_ hP2 ac
  have dr_set : ∀ {G : Gp} (o : OU), Dr G → Dr (G.set P o) := fun o d => by
    obtain ⟨a, b, cs, ha, hb, hc⟩ := d
    exact ⟨a, b, cs, ha, by rw [List.getElem?_set_ne (by omega)]; exact hb, by rw [List.getElem?_set_ne (by omega)]; exact hc⟩
  let E (du' m r pa a w : Option U) : Ev := EnvA xs m r du' pa a w
  obtain ⟨v, Ge, se, vv, de, ae⟩ : ∃ v Ge, sIf (bVal (eBin gNe (eVar 6) (eC (.int 1)))) g_law_1 sNil (EnvA xs (some (.int mi)) (some (.int ri)) (some du) (some (.ref P)) (some (.int k)) none) Gd = .nx (EnvA xs (some (.int mi)) (some (.int ri)) (some du) (some (.ref P)) (some (.int k)) none) Ge ∧ Val v ∧ Dr Ge ∧ Ge[P]? = some (.lst [v, vb]) := by
    by_cases c : k = 1
    · exact ⟨va, Gd, by simp [EnvA, c], vva, dd, ad⟩
    · obtain ⟨v, Ge, ee, vv, de, xe⟩ := odd_spec dd
      have ae := xe.at_ hP2 ad
      have su := setU_ref (v := v) (i := 0) ae (by decide) (by simp)
      exact ⟨v, Ge.set P (.lst [v, vb]), by simp [EnvA, c, g_law_1, ee, su], vv, dr_set _ de, set_get ae⟩
  obtain ⟨w, Gf, sf, vw, df, af⟩ : ∃ w Gf, sIf (bVal (eBin gNe (eVar 6) (eC (.int 0)))) g_law_2 sNil (EnvA xs (some (.int mi)) (some (.int ri)) (some du) (some (.ref P)) (some (.int k)) none) Ge = .nx (EnvA xs (some (.int mi)) (some (.int ri)) (some du) (some (.ref P)) (some (.int k)) none) Gf ∧ Val w ∧ Dr Gf ∧ Gf[P]? = some (.lst [v, w]) := by
    by_cases c : k = 0
    · exact ⟨vb, Ge, by simp [EnvA, c], vvb, de, ae⟩
    · obtain ⟨w, Gf, ef, vw, df, xf⟩ := odd_spec de
      have af := xf.at_ hP2 ae
      have su := setU_ref (v := w) (i := 1) af (by decide) (by simp)
      exact ⟨w, Gf.set P (.lst [v, w]), by simp [EnvA, c, g_law_2, ef, su], vw, dr_set _ df, set_get af⟩
  have i0 : ∀ {G : Gp}, G[P]? = some (.lst [v, w]) → gIdx (.ref P) (.int 0) G = .ok v G := fun h => gIdx_ref h (atI_pos (by decide) rfl)
  have i1 : ∀ {G : Gp}, G[P]? = some (.lst [v, w]) → gIdx (.ref P) (.int 1) G = .ok w G := fun h => gIdx_ref h (atI_pos (by decide) rfl)
  have ew := wrong_spec vv.nr vw.nr Gf
  obtain ⟨W, hW⟩ : ∃ W, W = Gf.length := ⟨_, rfl⟩
  obtain ⟨Gg, hGg⟩ : ∃ Gg, Gg = Gf ++ [OU.lst (wrongs v w)] := ⟨_, rfl⟩
  rw [← hGg, ← hW] at ew
  have xg : Ex0 Gf Gg := by rw [hGg]; exact ex0_push _ _
  have ag : Gg[W]? = some (.lst (wrongs v w)) := by rw [hGg, hW]; exact push_at _ _
  have pg := xg.at_ af
  have jf0 := i0 af
  have jf1 := i1 af
  have head : ∀ r', fin ((sSeq (sIf (bVal (eBin gEq (eCall bLen (aCons (eVar 7) aNil)) (eC (.int 0)))) g_law_3 sNil) (sSeq (sIf (tNotB (bVal (eCall F__law_refused (aCons (eCall F__law_least_tried (aCons (eBin gIdx (eVar 5) (eC (.int 0))) (aCons (eBin gIdx (eVar 5) (eC (.int 1))) aNil))) (aCons (eVar 7) aNil))))) (sRet (eC (.bl false))) sNil) (sRet (eCall F__law_refused (aCons (eCall F__law_walk_tried (aCons (eBin gIdx (eVar 5) (eC (.int 0))) (aCons (eBin gIdx (eVar 5) (eC (.int 1))) aNil))) (aCons (eVar 7) aNil)))))) (EnvA xs (some (.int mi)) (some (.int ri)) (some du) (some (.ref P)) (some (.int k)) (some (.ref W))) Gg) = r' →
      fin (g_law [some (.rl xs), none, none, none, none, none, none, none] []) = r' := fun r' h => by
    rw [← h]
    unfold g_law
    rw [seq_nx (e' := EnvA xs none none none none none none) (G' := G1) (by simp [EnvA, e1]),
      seq_nx (e' := EnvA xs (some (.int mi2)) none none none none none) (G' := G2) (by simp [EnvA, e2, i2]),
      seq_nx (e' := EnvA xs (some (.int mi2)) (some (.int r3)) none none none none) (G' := G3) (by simp [EnvA, e3]),
      seq_nx (e' := EnvA xs (some (.int mi2)) (some (.int r3)) (some du) none none none) (G' := G4) (by simp [EnvA, e4]),
      seq_nx (e' := EnvA xs (some (.int mi2)) (some (.int r3)) (some du) none none none) (G' := G5) (by simp [EnvA, el, qd, e5]),
      seq_nx (e' := EnvA xs (some (.int mi)) (some (.int r3)) (some du) none none none) (G' := G6) (by simp [EnvA, e6, hmi]),
      seq_nx (e' := EnvA xs (some (.int mi)) (some (.int ri)) (some du) none none none) (G' := G8) (by simp [EnvA, e7, i7, e8]),
      seq_nx (e' := EnvA xs (some (.int mi)) (some (.int ri)) (some du) none none none) (G' := G9) (by simp [EnvA, el8, e9]),
      seq_nx (e' := EnvA xs (some (.int mi)) (some (.int ri)) (some du) (some (.ref P)) none none) (G' := Gc) (by simp [EnvA, ea, ia, eb, ib, hGc, hP]),
      seq_nx (e' := EnvA xs (some (.int mi)) (some (.int ri)) (some du) (some (.ref P)) (some (.int k)) none) (G' := Gd) (by simp [EnvA, ed]), seq_nx se, seq_nx sf,
      seq_nx (e' := EnvA xs (some (.int mi)) (some (.int ri)) (some du) (some (.ref P)) (some (.int k)) (some (.ref W))) (G' := Gg) (by simp [EnvA, jf0, jf1, ew])]
  have jg0 := i0 pg
  have jg1 := i1 pg
  cases hws : wrongs v w with
  | nil =>
    obtain ⟨k1, k2⟩ := wrongs_nil hws
    obtain ⟨i, rfl, i1', i2'⟩ := inR_is k1
    obtain ⟨j, rfl, j1', j2'⟩ := inR_is k2
    rw [hws] at ag
    have bl : bLen [.ref W] Gg = .ok (.int 0) Gg := by rw [bLen_seq (seqU_of ag)]; rfl
    have hi : i = ((i.toNat : Nat) : Int) := by omega
    have hj : j = ((j.toNat : Nat) : Int) := by omega
    have eL := least_spec (m := i.toNat) (r := j.toNat) (by omega) (by omega) (by omega) hi hj Gg
    obtain ⟨Gh, eh, _⟩ := is_least_spec (m := i.toNat) (r := j.toNat) (G := Gg) (by omega) (by omega) (by omega) hi hj
    generalize optU (need i.toNat j.toNat) = lz at eL eh
    refine ⟨Gh, head _ ?_⟩
    have e3' : g_law_3 (EnvA xs (some (.int mi)) (some (.int ri)) (some du) (some (.ref P)) (some (.int k)) (some (.ref W))) Gg = .ret (.bl true) Gh := by
      simp [EnvA, g_law_3, jg0, jg1, eL, eh]
    rw [sSeq_]
    have e4' : sIf (bVal (eBin gEq (eCall bLen (aCons (eVar 7) aNil)) (eC (.int 0)))) g_law_3 sNil (EnvA xs (some (.int mi)) (some (.int ri)) (some du) (some (.ref P)) (some (.int k)) (some (.ref W))) Gg = .ret (.bl true) Gh := by
      rw [← e3']
      generalize g_law_3 = g3
      simp [EnvA, bl]
    rw [e4']
    rfl
  | cons x r =>
    obtain ⟨hr', hc⟩ := chain_bad vv.nr vw.nr Gg x r hws
    subst hr'
    have vx : Val x := by
      unfold wrongs at hws
      split at hws
      · cases hws; exact vv
      · split at hws
        · cases hws; exact vw
        · exact nomatch hws
    rw [hws] at ag
    have bl : bLen [.ref W] Gg = .ok (.int 1) Gg := by rw [bLen_seq (seqU_of ag)]; rfl
    have lb : F_least_on [v, w] Gg = .exc "InvalidNumber" [("number", x)] Gg := by
      rw [run_least_on]
      simp [g_least_on, hc]
    have lt := ltried_bad lb
    obtain ⟨T, hT⟩ : ∃ T, T = Gg.length := ⟨_, rfl⟩
    obtain ⟨Gh, hGh⟩ : ∃ Gh, Gh = Gg ++ [OU.lst [.str "number", x]] := ⟨_, rfl⟩
    rw [← hGh, ← hT] at lt
    have xh : Ex0 Gg Gh := by rw [hGh]; exact ex0_push _ _
    have ah : Gh[T]? = some (.lst [.str "number", x]) := by rw [hGh, hT]; exact push_at _ _
    obtain ⟨Gi, ei, xi⟩ := refused_spec vx ah (xh.at_ ag)
    have pi := (xh.trans xi).at_ pg
    have ji0 := i0 pi
    have ji1 := i1 pi
    obtain ⟨_, hc2⟩ := chain_bad vv.nr vw.nr Gi x [] hws
    have wb : F_walk [v, w] Gi = .exc "InvalidNumber" [("number", x)] Gi := by
      rw [run_walk]
      simp [g_walk, hc2]
    have wt := wtried_bad wb
    obtain ⟨T2, hT2⟩ : ∃ T2, T2 = Gi.length := ⟨_, rfl⟩
    obtain ⟨Gj, hGj⟩ : ∃ Gj, Gj = Gi ++ [OU.lst [.str "number", x]] := ⟨_, rfl⟩
    rw [← hGj, ← hT2] at wt
    have xj : Ex0 Gi Gj := by rw [hGj]; exact ex0_push _ _
    have aj : Gj[T2]? = some (.lst [.str "number", x]) := by rw [hGj, hT2]; exact push_at _ _
    obtain ⟨Gk, ek, xk⟩ := refused_spec vx aj (((xh.trans xi).trans xj).at_ ag)
    refine ⟨Gk, head _ ?_⟩
    rw [seq_nx (e' := EnvA xs (some (.int mi)) (some (.int ri)) (some du) (some (.ref P)) (some (.int k)) (some (.ref W))) (G' := Gg) (by simp [EnvA, bl]), seq_nx (e' := EnvA xs (some (.int mi)) (some (.int ri)) (some du) (some (.ref P)) (some (.int k)) (some (.ref W))) (G' := Gi) (by simp [EnvA, jg0, jg1, lt, ei])]
    simp [EnvA, ji0, ji1, wt, ek]
end K96

set_option Elab.async false
set_option linter.all false
set_option maxRecDepth 100000
set_option maxHeartbeats 8000000
set_option autoImplicit false

namespace K96
open PySem PySem.Spec L2 FL
def top (i : Nat) : Stmt := PySem.Challenge.pw_everydealt_k96_whole_least_walks.main.body.getD i (.Pass ⟨0, 0, 0, 0⟩)
abbrev s__law_box : Stmt := top 22
abbrev s__law_draw : Stmt := top 23
abbrev s__law_free : Stmt := top 27
abbrev s__law_searched : Stmt := top 28
abbrev s__law_is_number : Stmt := top 21
abbrev s__law_wrong : Stmt := top 33
abbrev s__law_refused : Stmt := top 34
abbrev s_is_integer : Stmt := top 6
abbrev s_is_from_to : Stmt := top 7
abbrev s_check_number : Stmt := top 8
abbrev s_check_chain : Stmt := top 14
abbrev s_on_needed : Stmt := top 15
abbrev s_least_on : Stmt := top 18
abbrev s__law_least_tried : Stmt := top 29
abbrev s_best_first : Stmt := top 16
abbrev s_deeds_from : Stmt := top 17
abbrev s_walk : Stmt := top 19
abbrev s__law_walk_tried : Stmt := top 30
abbrev s__law_walked : Stmt := top 26
abbrev s__law_is_least : Stmt := top 31
abbrev s__law_odd : Stmt := top 32
abbrev s__law_choose : Stmt := top 24
abbrev s__law_least : Stmt := top 25
abbrev s_law : Stmt := top 35
abbrev s_InvalidNumber : Stmt := inClass (top 3) 0
abbrev s_Undefined : Stmt := inClass (top 4) 0
def exN : List Str := ["DealError", "InvalidNumber", "Undefined"]
def exK : List (List Str) := []
def exF : List Str := ["number", "what"]
structure EV (K : PySem.W.Frag) (mg : Str → Option Value) : Type where
  fd__law_box : FuncData
  D__law_box : FunD K "_law_box" "_law_box" (defArgs s__law_box) (defBody s__law_box) (defScope s__law_box) [] [] (He.ga K "_law_box") fd__law_box
  g__law_box : mg "_law_box" = some (.ref (He.ga K "_law_box"))
  fd__law_draw : FuncData
  D__law_draw : FunD K "_law_draw" "_law_draw" (defArgs s__law_draw) (defBody s__law_draw) (defScope s__law_draw) [] [] (He.ga K "_law_draw") fd__law_draw
  g__law_draw : mg "_law_draw" = some (.ref (He.ga K "_law_draw"))
  fd__law_free : FuncData
  D__law_free : FunD K "_law_free" "_law_free" (defArgs s__law_free) (defBody s__law_free) (defScope s__law_free) [] [] (He.ga K "_law_free") fd__law_free
  g__law_free : mg "_law_free" = some (.ref (He.ga K "_law_free"))
  fd__law_searched : FuncData
  D__law_searched : FunD K "_law_searched" "_law_searched" (defArgs s__law_searched) (defBody s__law_searched) (defScope s__law_searched) [] [] (He.ga K "_law_searched") fd__law_searched
  g__law_searched : mg "_law_searched" = some (.ref (He.ga K "_law_searched"))
  fd__law_is_number : FuncData
  D__law_is_number : FunD K "_law_is_number" "_law_is_number" (defArgs s__law_is_number) (defBody s__law_is_number) (defScope s__law_is_number) [] [] (He.ga K "_law_is_number") fd__law_is_number
  g__law_is_number : mg "_law_is_number" = some (.ref (He.ga K "_law_is_number"))
  fd__law_wrong : FuncData
  D__law_wrong : FunD K "_law_wrong" "_law_wrong" (defArgs s__law_wrong) (defBody s__law_wrong) (defScope s__law_wrong) [] [] (He.ga K "_law_wrong") fd__law_wrong
  g__law_wrong : mg "_law_wrong" = some (.ref (He.ga K "_law_wrong"))
  fd__law_refused : FuncData
  D__law_refused : FunD K "_law_refused" "_law_refused" (defArgs s__law_refused) (defBody s__law_refused) (defScope s__law_refused) [] [] (He.ga K "_law_refused") fd__law_refused
  g__law_refused : mg "_law_refused" = some (.ref (He.ga K "_law_refused"))
  fd_is_integer : FuncData
  D_is_integer : FunD K "is_integer" "is_integer" (defArgs s_is_integer) (defBody s_is_integer) (defScope s_is_integer) [] [] (He.ga K "is_integer") fd_is_integer
  g_is_integer : mg "is_integer" = some (.ref (He.ga K "is_integer"))
  fd_is_from_to : FuncData
  D_is_from_to : FunD K "is_from_to" "is_from_to" (defArgs s_is_from_to) (defBody s_is_from_to) (defScope s_is_from_to) [] [] (He.ga K "is_from_to") fd_is_from_to
  g_is_from_to : mg "is_from_to" = some (.ref (He.ga K "is_from_to"))
  fd_check_number : FuncData
  D_check_number : FunD K "check_number" "check_number" (defArgs s_check_number) (defBody s_check_number) (defScope s_check_number) [] [] (He.ga K "check_number") fd_check_number
  g_check_number : mg "check_number" = some (.ref (He.ga K "check_number"))
  fd_check_chain : FuncData
  D_check_chain : FunD K "check_chain" "check_chain" (defArgs s_check_chain) (defBody s_check_chain) (defScope s_check_chain) [] [] (He.ga K "check_chain") fd_check_chain
  g_check_chain : mg "check_chain" = some (.ref (He.ga K "check_chain"))
  fd_on_needed : FuncData
  D_on_needed : FunD K "on_needed" "on_needed" (defArgs s_on_needed) (defBody s_on_needed) (defScope s_on_needed) [] [] (He.ga K "on_needed") fd_on_needed
  g_on_needed : mg "on_needed" = some (.ref (He.ga K "on_needed"))
  fd_least_on : FuncData
  D_least_on : FunD K "least_on" "least_on" (defArgs s_least_on) (defBody s_least_on) (defScope s_least_on) [] [] (He.ga K "least_on") fd_least_on
  g_least_on : mg "least_on" = some (.ref (He.ga K "least_on"))
  fd__law_least_tried : FuncData
  D__law_least_tried : FunD K "_law_least_tried" "_law_least_tried" (defArgs s__law_least_tried) (defBody s__law_least_tried) (defScope s__law_least_tried) [] [] (He.ga K "_law_least_tried") fd__law_least_tried
  g__law_least_tried : mg "_law_least_tried" = some (.ref (He.ga K "_law_least_tried"))
  fd_best_first : FuncData
  D_best_first : FunD K "best_first" "best_first" (defArgs s_best_first) (defBody s_best_first) (defScope s_best_first) [] [] (He.ga K "best_first") fd_best_first
  g_best_first : mg "best_first" = some (.ref (He.ga K "best_first"))
  fd_deeds_from : FuncData
  D_deeds_from : FunD K "deeds_from" "deeds_from" (defArgs s_deeds_from) (defBody s_deeds_from) (defScope s_deeds_from) [] [] (He.ga K "deeds_from") fd_deeds_from
  g_deeds_from : mg "deeds_from" = some (.ref (He.ga K "deeds_from"))
  fd_walk : FuncData
  D_walk : FunD K "walk" "walk" (defArgs s_walk) (defBody s_walk) (defScope s_walk) [] [] (He.ga K "walk") fd_walk
  g_walk : mg "walk" = some (.ref (He.ga K "walk"))
  fd__law_walk_tried : FuncData
  D__law_walk_tried : FunD K "_law_walk_tried" "_law_walk_tried" (defArgs s__law_walk_tried) (defBody s__law_walk_tried) (defScope s__law_walk_tried) [] [] (He.ga K "_law_walk_tried") fd__law_walk_tried
  g__law_walk_tried : mg "_law_walk_tried" = some (.ref (He.ga K "_law_walk_tried"))
  fd__law_walked : FuncData
  D__law_walked : FunD K "_law_walked" "_law_walked" (defArgs s__law_walked) (defBody s__law_walked) (defScope s__law_walked) [] [] (He.ga K "_law_walked") fd__law_walked
  g__law_walked : mg "_law_walked" = some (.ref (He.ga K "_law_walked"))
  fd__law_is_least : FuncData
  D__law_is_least : FunD K "_law_is_least" "_law_is_least" (defArgs s__law_is_least) (defBody s__law_is_least) (defScope s__law_is_least) [] [] (He.ga K "_law_is_least") fd__law_is_least
  g__law_is_least : mg "_law_is_least" = some (.ref (He.ga K "_law_is_least"))
  fd__law_odd : FuncData
  D__law_odd : FunD K "_law_odd" "_law_odd" (defArgs s__law_odd) (defBody s__law_odd) (defScope s__law_odd) [] [] (He.ga K "_law_odd") fd__law_odd
  g__law_odd : mg "_law_odd" = some (.ref (He.ga K "_law_odd"))
  fd__law_choose : FuncData
  D__law_choose : FunD K "_law_choose" "_law_choose" (defArgs s__law_choose) (defBody s__law_choose) (defScope s__law_choose) [] [] (He.ga K "_law_choose") fd__law_choose
  g__law_choose : mg "_law_choose" = some (.ref (He.ga K "_law_choose"))
  fd__law_least : FuncData
  D__law_least : FunD K "_law_least" "_law_least" (defArgs s__law_least) (defBody s__law_least) (defScope s__law_least) [] [] (He.ga K "_law_least") fd__law_least
  g__law_least : mg "_law_least" = some (.ref (He.ga K "_law_least"))
  fd_law : FuncData
  D_law : FunD K "law" "law" (defArgs s_law) (defBody s_law) (defScope s_law) [] [] (He.ga K "law") fd_law
  g_law : mg "law" = some (.ref (He.ga K "law"))
  fd_InvalidNumber : FuncData
  D_InvalidNumber : FunD K "__init__" "InvalidNumber.__init__" (defArgs s_InvalidNumber) (defBody s_InvalidNumber) (defScope s_InvalidNumber) [] [] (He.ma K (He.ga K "InvalidNumber") "__init__") fd_InvalidNumber
  x_InvalidNumber : ExK K mg "InvalidNumber" (He.ma K (He.ga K "InvalidNumber") "__init__") ["number"]
  fd_Undefined : FuncData
  D_Undefined : FunD K "__init__" "Undefined.__init__" (defArgs s_Undefined) (defBody s_Undefined) (defScope s_Undefined) [] [] (He.ma K (He.ga K "Undefined") "__init__") fd_Undefined
  x_Undefined : ExK K mg "Undefined" (He.ma K (He.ga K "Undefined") "__init__") ["what"]
  g_DealError : mg "DealError" = some (.ref (He.ga K "DealError"))
  g_InvalidNumber : mg "InvalidNumber" = some (.ref (He.ga K "InvalidNumber"))
  c_MOST_STEPS : ∃ t, mg "MOST_STEPS" = some (.int 40 t)
  g_Undefined : mg "Undefined" = some (.ref (He.ga K "Undefined"))
  f_abs : mg "abs" = none
  f_bool : mg "bool" = none
  f_int : mg "int" = none
  f_isinstance : mg "isinstance" = none
  f_len : mg "len" = none
  f_max : mg "max" = none
  f_min : mg "min" = none
  f_range : mg "range" = none
  f_str : mg "str" = none
  f_tuple : mg "tuple" = none
  b_comb : mg "comb" = some (.builtin "math.comb")
  g_BACK : mg "BACK" = some (.ref (He.ga K "BACK"))
  t_BACK : TupW K (He.ga K "BACK") ["back"]
  g_KEEP : mg "KEEP" = some (.ref (He.ga K "KEEP"))
  t_KEEP : TupW K (He.ga K "KEEP") ["keep"]
  g_ON : mg "ON" = some (.ref (He.ga K "ON"))
  t_ON : TupW K (He.ga K "ON") ["on"]
  ex : EX K exT exN exK exF
section
variable {P : Program} {w : World} {K : PySem.W.Frag} {mg : Str → Option Value} {base : Heap}
theorem sc_InvalidNumber : FnScope ["self", "number"] ["self", "number"] (defScope s_InvalidNumber) := ⟨rfl, rfl, rfl, by decide +kernel, rfl, by decide +kernel, by decide +kernel⟩
theorem okx_InvalidNumber (E : EV K mg) : FnOk P w K mg base (CX P w) 1 (He.ma K (He.ga K "InvalidNumber") "__init__") E.fd_InvalidNumber ["self", "number"] (spI K (He.ga K "InvalidNumber") ["number"]) :=
  okI1 E.D_InvalidNumber sc_InvalidNumber rfl (fun cdv A outer s H EE => pss_one (ps_ost (pv 0) (pv 1)))
theorem bx_InvalidNumber (E : EV K mg) : Binds K E.fd_InvalidNumber ["self", "number"] [] := E.D_InvalidNumber.bindsN fun _ _ _ _ _ _ us hl => match us, hl with | [_, _], _ => rfl
theorem sc_Undefined : FnScope ["self", "what"] ["self", "what"] (defScope s_Undefined) := ⟨rfl, rfl, rfl, by decide +kernel, rfl, by decide +kernel, by decide +kernel⟩
theorem okx_Undefined (E : EV K mg) : FnOk P w K mg base (CX P w) 1 (He.ma K (He.ga K "Undefined") "__init__") E.fd_Undefined ["self", "what"] (spI K (He.ga K "Undefined") ["what"]) :=
  okI1 E.D_Undefined sc_Undefined rfl (fun cdv A outer s H EE => pss_one (ps_ost (pv 0) (pv 1)))
theorem bx_Undefined (E : EV K mg) : Binds K E.fd_Undefined ["self", "what"] [] := E.D_Undefined.bindsN fun _ _ _ _ _ _ us hl => match us, hl with | [_, _], _ => rfl
theorem sc__law_box : FnScope ["script", "mix", "cells", "cell"] ["script"] (defScope s__law_box) := ⟨rfl, rfl, rfl, by decide +kernel, rfl, by decide +kernel, by decide +kernel⟩
theorem b__law_box (E : EV K mg) : Binds K E.fd__law_box ["script"] [] := E.D__law_box.bindsN fun _ _ _ _ _ _ us hl => match us, hl with | [_], _ => rfl
theorem ok__law_box (E : EV K mg) : FnF P w K mg base 2 (He.ga K "_law_box") E.fd__law_box ["script"] F__law_box := by
  have sc := sc__law_box
  refine fnF_of (k := 1) E.D__law_box sc__law_box (fun Z hZ X cdv A outer s H EE hX hr => ?_)
  subst hX
  have tk : Takes _ (wE EE) := takes_of (X := cxOf (CX P w) P w K mg base ["script", "mix", "cells", "cell"] "_law_box" (defScope s__law_box) (He.ga K "_law_box") cdv A outer s H EE) rfl rfl rfl rfl
  have hp := passes_of (X := cxOf (CX P w) P w K mg base ["script", "mix", "cells", "cell"] "_law_box" (defScope s__law_box) (He.ga K "_law_box") cdv A outer s H EE) rfl
  exact (fscons (fset (i := 1) sc.nd rfl (Or.inl rfl) fint) (fscons (fset (i := 2) sc.nd rfl (Or.inl rfl) (flst fanil)) (fscons (fsfor hp rfl (fiseq (fslice (fv 0) fono (foint fint))) (fgname (i := 3) sc.nd rfl (Or.inl rfl)) (nxName 3) (fscons (fset (i := 1) sc.nd rfl (Or.inl rfl) (fmod (fcint E.f_int (facons (fadd (fadd (fadd (fmul (fv 1) (fv 1)) (fabs E.f_abs (facons (fv 3) fanil))) (fmul fint (fcint E.f_int (facons (flt (fv 3) fint) fanil)))) fint) fanil)) fint)) (fsone (fsif (tge (fabs E.f_abs (facons (fv 3) fanil)) fint) (fsone (fexpr (fmeth oAppend PySem.F.slot_list_append rfl mt_append (fv 2) (facons (fabs E.f_abs (facons (fv 3) fanil)) fanil)))) fsnil)))) (fscons (fexpr (fmeth0 oReverse PySem.F.slot_list_reverse rfl mtReverse (fv 2))) (fsone (fret (flst (facons (fv 1) (facons fint (facons (fv 2) fanil))))))))))
theorem sc__law_draw : FnScope ["box", "many", "k", "number"] ["box", "many"] (defScope s__law_draw) := ⟨rfl, rfl, rfl, by decide +kernel, rfl, by decide +kernel, by decide +kernel⟩
theorem b__law_draw (E : EV K mg) : Binds K E.fd__law_draw ["box", "many"] [] := E.D__law_draw.bindsN fun _ _ _ _ _ _ us hl => match us, hl with | [_, _], _ => rfl
theorem ok__law_draw (E : EV K mg) : FnF P w K mg base 2 (He.ga K "_law_draw") E.fd__law_draw ["box", "many"] F__law_draw := by
  have sc := sc__law_draw
  refine fnF_of (k := 1) E.D__law_draw sc__law_draw (fun Z hZ X cdv A outer s H EE hX hr => ?_)
  subst hX
  have tk : Takes _ (wE EE) := takes_of (X := cxOf (CX P w) P w K mg base ["box", "many", "k", "number"] "_law_draw" (defScope s__law_draw) (He.ga K "_law_draw") cdv A outer s H EE) rfl rfl rfl rfl
  have hp := passes_of (X := cxOf (CX P w) P w K mg base ["box", "many", "k", "number"] "_law_draw" (defScope s__law_draw) (He.ga K "_law_draw") cdv A outer s H EE) rfl
  exact (fscons (fsfor hp rfl (fir1 (by rfl) E.f_range (facons fint fanil)) (fgname (i := 2) sc.nd rfl (Or.inl rfl)) (nxName 2) (fscons (fsif (ft_w (fw_or (tgt (fidx (fv 0) fint) fint) (fw_or1 (teq hr.units (flen E.f_len (facons (fidx (fv 0) fint) fanil)) fint)))) (fsone fbrk) fsnil) (fsone (fasg (fmeth0 oPop PySem.F.slot_list_pop rfl mt_pop (fidx (fv 0) fint)) (fgsub (W := W0) (fv 0) fint) nxSub)))) (fscons (fsif (tgt (fidx (fv 0) fint) fint) (fscons (fset (i := 3) sc.nd rfl (Or.inl rfl) (fmod (fcint E.f_int (facons (fidx (fv 0) fint) fanil)) (fv 1))) (fscons (fasg (ffdiv (fcint E.f_int (facons (fidx (fv 0) fint) fanil)) (fv 1)) (fgsub (W := W0) (fv 0) fint) nxSub) (fsone (fret (fv 3))))) fsnil) (fscons (fasg (fmod (fcint E.f_int (facons (fadd (fmul (fidx (fv 0) fint) (fidx (fv 0) fint)) fint) fanil)) fint) (fgsub (W := W0) (fv 0) fint) nxSub) (fscons (fasg (fmod (fcint E.f_int (facons (fadd (fmul (fidx (fv 0) fint) (fidx (fv 0) fint)) fint) fanil)) fint) (fgsub (W := W0) (fv 0) fint) nxSub) (fsone (fret (fmod (fcint E.f_int (facons (ffdiv (fidx (fv 0) fint) fint) fanil)) (fv 1))))))))
theorem sc__law_free : FnScope ["at", "kept", "left", "many", "room", "stands", "told", "k"] ["at", "kept", "left", "many", "room"] (defScope s__law_free) := ⟨rfl, rfl, rfl, by decide +kernel, rfl, by decide +kernel, by decide +kernel⟩
theorem b__law_free (E : EV K mg) : Binds K E.fd__law_free ["at", "kept", "left", "many", "room"] [] := E.D__law_free.bindsN fun _ _ _ _ _ _ us hl => match us, hl with | [_, _, _, _, _], _ => rfl
theorem ok__law_free (E : EV K mg) : FnF P w K mg base 2 (He.ga K "_law_free") E.fd__law_free ["at", "kept", "left", "many", "room"] F__law_free := by
  have sc := sc__law_free
  refine fnF_of (k := 1) E.D__law_free sc__law_free (fun Z hZ X cdv A outer s H EE hX hr => ?_)
  subst hX
  have tk : Takes _ (wE EE) := takes_of (X := cxOf (CX P w) P w K mg base ["at", "kept", "left", "many", "room", "stands", "told", "k"] "_law_free" (defScope s__law_free) (He.ga K "_law_free") cdv A outer s H EE) rfl rfl rfl rfl
  have hp := passes_of (X := cxOf (CX P w) P w K mg base ["at", "kept", "left", "many", "room", "stands", "told", "k"] "_law_free" (defScope s__law_free) (He.ga K "_law_free") cdv A outer s H EE) rfl
  exact (fscons (fsetcomp (i := 5) hZ rfl sc.nd rfl rfl rfl (fir1 (by rfl) E.f_range (facons (fv 3) fanil)) (blkOk_by (own := [(("k" : Str), 7)]) (by rfl)) (fun _ _ _ _ _ => (fwname (i := 7) sc.nd rfl (Or.inl rfl))) (fun _ _ _ _ _ => (ftsone (teq hr.units (fband (fshr (fv 1) (fv 7)) fint) fint))) (fun _ _ _ _ _ => (fv 7))) (fscons (fset (i := 6) sc.nd rfl (Or.inl rfl) (flst fanil)) (fscons (fsif (ft_w (fw_and (tgt (fv 2) fint) (fw_and1 (teq hr.units (fv 0) (fsub (fv 2) fint))))) (fsone (fexpr (fmeth oAppend PySem.F.slot_list_append rfl mt_append (fv 6) (facons (ftup (facons (fv 0) (facons (fv 1) (facons (fsub (fv 2) fint) fanil)))) fanil)))) fsnil) (fscons (fsif (ft_w (fw_and (tnin (fv 0) (fv 5)) (fw_and1 (tlt (flen E.f_len (facons (fv 5) fanil)) (fv 4))))) (fsone (fexpr (fmeth oAppend PySem.F.slot_list_append rfl mt_append (fv 6) (facons (ftup (facons (fv 0) (facons (fadd (fv 1) (fshl fint (fv 0))) (facons (fv 2) fanil)))) fanil)))) fsnil) (fscons (fsfor hp rfl (fiseq (fv 5)) (fgname (i := 7) sc.nd rfl (Or.inl rfl)) (nxName 7) (fscons (fexpr (fmeth oAppend PySem.F.slot_list_append rfl mt_append (fv 6) (facons (ftup (facons (fv 7) (facons (fv 1) (facons (fv 2) fanil)))) fanil))) (fsone (fexpr (fmeth oAppend PySem.F.slot_list_append rfl mt_append (fv 6) (facons (ftup (facons (fv 0) (facons (fsub (fv 1) (fshl fint (fv 7))) (facons (fv 2) fanil)))) fanil)))))) (fsone (fret (fv 6))))))))
theorem sc__law_searched : FnScope ["many", "room", "level", "seen", "steps", "further", "turn", "stand", "one"] ["many", "room"] (defScope s__law_searched) := ⟨rfl, rfl, rfl, by decide +kernel, rfl, by decide +kernel, by decide +kernel⟩
theorem b__law_searched (E : EV K mg) : Binds K E.fd__law_searched ["many", "room"] [] := E.D__law_searched.bindsN fun _ _ _ _ _ _ us hl => match us, hl with | [_, _], _ => rfl
theorem ok__law_searched (E : EV K mg) : FnF P w K mg base 3 (He.ga K "_law_searched") E.fd__law_searched ["many", "room"] F__law_searched := by
  have sc := sc__law_searched
  refine fnF_of (k := 2) E.D__law_searched sc__law_searched (fun Z hZ X cdv A outer s H EE hX hr => ?_)
  subst hX
  have tk : Takes _ (wE EE) := takes_of (X := cxOf (CX P w) P w K mg base ["many", "room", "level", "seen", "steps", "further", "turn", "stand", "one"] "_law_searched" (defScope s__law_searched) (He.ga K "_law_searched") cdv A outer s H EE) rfl rfl rfl rfl
  have hp := passes_of (X := cxOf (CX P w) P w K mg base ["many", "room", "level", "seen", "steps", "further", "turn", "stand", "one"] "_law_searched" (defScope s__law_searched) (He.ga K "_law_searched") cdv A outer s H EE) rfl
  exact (fscons (fset (i := 2) sc.nd rfl (Or.inl rfl) (flst (facons (ftup (facons fint (facons fint (facons (fv 0) fanil)))) fanil))) (fscons (fset (i := 3) sc.nd rfl (Or.inl rfl) fdnewT) (fscons (fsfor hp rfl (fir1 (by rfl) E.f_range (facons fint fanil)) (fgname (i := 4) sc.nd rfl (Or.inl rfl)) (nxName 4) (fscons (fset (i := 5) sc.nd rfl (Or.inl rfl) (flst fanil)) (fscons (fsfor hp rfl (fir1 (by rfl) E.f_range (facons fint fanil)) (fgname (i := 6) sc.nd rfl (Or.inl rfl)) (nxName 6) (fscons (fsif (teq hr.units (flen E.f_len (facons (fv 2) fanil)) fint) (fsone fbrk) fsnil) (fscons (fset (i := 7) sc.nd rfl (Or.inl rfl) (fmeth0 oPop PySem.F.slot_list_pop rfl mt_pop (fv 2))) (fsone (fsif (tninD true (u1 hr.units) (fv 7) (fv 3)) (fscons (fasg fbl (fgsubD (W := W0) true (u1 hr.units) (fv 3) (fv 7)) nxSubD) (fscons (fsif (teq hr.units (fidx (fv 7) fint) fint) (fsone (fret (fv 4))) fsnil) (fscons (fsif (tlt (fidx (fv 7) fint) (fsub (fv 0) fint)) (fsone (fexpr (fmeth oAppend PySem.F.slot_list_append rfl mt_append (fv 5) (facons (ftup (facons (fadd (fidx (fv 7) fint) fint) (facons (fidx (fv 7) fint) (facons (fidx (fv 7) fint) fanil)))) fanil)))) fsnil) (fsone (fsfor hp rfl (fiseq (fcall hZ (ok__law_free E) ar__law_free (hr.mono (by decide)) tk E.g__law_free E.D__law_free.kp (b__law_free E) (facons (fidx (fv 7) fint) (facons (fidx (fv 7) fint) (facons (fidx (fv 7) fint) (facons (fv 0) (facons (fv 1) fanil))))))) (fgname (i := 8) sc.nd rfl (Or.inl rfl)) (nxName 8) (fsone (fsif (tninD true (u1 hr.units) (fv 8) (fv 3)) (fsone (fexpr (fmeth oAppend PySem.F.slot_list_append rfl mt_append (fv 2) (facons (fv 8) fanil)))) fsnil))))))) fsnil))))) (fscons (fset (i := 2) sc.nd rfl (Or.inl rfl) (fv 5)) (fsone (fsif (teq hr.units (flen E.f_len (facons (fv 2) fanil)) fint) (fsone (fret fnon)) fsnil)))))) (fsone (fret fnon)))))
theorem sc__law_is_number : FnScope ["value"] ["value"] (defScope s__law_is_number) := ⟨rfl, rfl, rfl, by decide +kernel, rfl, by decide +kernel, by decide +kernel⟩
theorem b__law_is_number (E : EV K mg) : Binds K E.fd__law_is_number ["value"] [] := E.D__law_is_number.bindsN fun _ _ _ _ _ _ us hl => match us, hl with | [_], _ => rfl
theorem ok__law_is_number (E : EV K mg) : FnF P w K mg base 2 (He.ga K "_law_is_number") E.fd__law_is_number ["value"] F__law_is_number := by
  have sc := sc__law_is_number
  refine fnF_of (k := 1) E.D__law_is_number sc__law_is_number (fun Z hZ X cdv A outer s H EE hX hr => ?_)
  subst hX
  have tk : Takes _ (wE EE) := takes_of (X := cxOf (CX P w) P w K mg base ["value"] "_law_is_number" (defScope s__law_is_number) (He.ga K "_law_is_number") cdv A outer s H EE) rfl rfl rfl rfl
  have hp := passes_of (X := cxOf (CX P w) P w K mg base ["value"] "_law_is_number" (defScope s__law_is_number) (He.ga K "_law_is_number") cdv A outer s H EE) rfl
  exact (fsone (fret (fand (fisInt E.f_isinstance E.f_int (fv 0)) (fand (fnot (fisBool E.f_isinstance E.f_bool (fv 0))) (fone (fge (fv 0) fint))))))
theorem sc__law_wrong : FnScope ["many", "room"] ["many", "room"] (defScope s__law_wrong) := ⟨rfl, rfl, rfl, by decide +kernel, rfl, by decide +kernel, by decide +kernel⟩
theorem b__law_wrong (E : EV K mg) : Binds K E.fd__law_wrong ["many", "room"] [] := E.D__law_wrong.bindsN fun _ _ _ _ _ _ us hl => match us, hl with | [_, _], _ => rfl
theorem ok__law_wrong (E : EV K mg) : FnF P w K mg base 3 (He.ga K "_law_wrong") E.fd__law_wrong ["many", "room"] F__law_wrong := by
  have sc := sc__law_wrong
  refine fnF_of (k := 2) E.D__law_wrong sc__law_wrong (fun Z hZ X cdv A outer s H EE hX hr => ?_)
  subst hX
  have tk : Takes _ (wE EE) := takes_of (X := cxOf (CX P w) P w K mg base ["many", "room"] "_law_wrong" (defScope s__law_wrong) (He.ga K "_law_wrong") cdv A outer s H EE) rfl rfl rfl rfl
  have hp := passes_of (X := cxOf (CX P w) P w K mg base ["many", "room"] "_law_wrong" (defScope s__law_wrong) (He.ga K "_law_wrong") cdv A outer s H EE) rfl
  exact (fscons (fsif (ft_w (fw_or (ft_not (ft_val (fcall hZ (ok__law_is_number E) ar__law_is_number (hr.mono (by decide)) tk E.g__law_is_number E.D__law_is_number.kp (b__law_is_number E) (facons (fv 0) fanil)))) (fw_or (tlt (fv 0) fint) (fw_or1 (tgt (fv 0) fint))))) (fsone (fret (flst (facons (fv 0) fanil)))) fsnil) (fscons (fsif (ft_w (fw_or (ft_not (ft_val (fcall hZ (ok__law_is_number E) ar__law_is_number (hr.mono (by decide)) tk E.g__law_is_number E.D__law_is_number.kp (b__law_is_number E) (facons (fv 1) fanil)))) (fw_or1 (tgt (fv 1) fint)))) (fsone (fret (flst (facons (fv 1) fanil)))) fsnil) (fsone (fret (flst fanil)))))
theorem sc__law_refused : FnScope ["told", "wrong", "same"] ["told", "wrong"] (defScope s__law_refused) := ⟨rfl, rfl, rfl, by decide +kernel, rfl, by decide +kernel, by decide +kernel⟩
theorem b__law_refused (E : EV K mg) : Binds K E.fd__law_refused ["told", "wrong"] [] := E.D__law_refused.bindsN fun _ _ _ _ _ _ us hl => match us, hl with | [_, _], _ => rfl
theorem ok__law_refused (E : EV K mg) : FnF P w K mg base 2 (He.ga K "_law_refused") E.fd__law_refused ["told", "wrong"] F__law_refused := by
  have sc := sc__law_refused
  refine fnF_of (k := 1) E.D__law_refused sc__law_refused (fun Z hZ X cdv A outer s H EE hX hr => ?_)
  subst hX
  have tk : Takes _ (wE EE) := takes_of (X := cxOf (CX P w) P w K mg base ["told", "wrong", "same"] "_law_refused" (defScope s__law_refused) (He.ga K "_law_refused") cdv A outer s H EE) rfl rfl rfl rfl
  have hp := passes_of (X := cxOf (CX P w) P w K mg base ["told", "wrong", "same"] "_law_refused" (defScope s__law_refused) (He.ga K "_law_refused") cdv A outer s H EE) rfl
  exact (fscons (fset (i := 2) sc.nd rfl (Or.inl rfl) (feq hr.units (fisBool E.f_isinstance E.f_bool (fidx (fv 0) fint)) (fisBool E.f_isinstance E.f_bool (fidx (fv 1) fint)))) (fsone (fret (fand (feq hr.units (fv 0) (flst (facons fstr (facons (fidx (fv 1) fint) fanil)))) (fone (fv 2))))))
theorem sc_is_integer : FnScope ["value"] ["value"] (defScope s_is_integer) := ⟨rfl, rfl, rfl, by decide +kernel, rfl, by decide +kernel, by decide +kernel⟩
theorem b_is_integer (E : EV K mg) : Binds K E.fd_is_integer ["value"] [] := E.D_is_integer.bindsN fun _ _ _ _ _ _ us hl => match us, hl with | [_], _ => rfl
theorem ok_is_integer (E : EV K mg) : FnF P w K mg base 2 (He.ga K "is_integer") E.fd_is_integer ["value"] F_is_integer := by
  have sc := sc_is_integer
  refine fnF_of (k := 1) E.D_is_integer sc_is_integer (fun Z hZ X cdv A outer s H EE hX hr => ?_)
  subst hX
  have tk : Takes _ (wE EE) := takes_of (X := cxOf (CX P w) P w K mg base ["value"] "is_integer" (defScope s_is_integer) (He.ga K "is_integer") cdv A outer s H EE) rfl rfl rfl rfl
  have hp := passes_of (X := cxOf (CX P w) P w K mg base ["value"] "is_integer" (defScope s_is_integer) (He.ga K "is_integer") cdv A outer s H EE) rfl
  exact (fsone (fret (fand (fisInt E.f_isinstance E.f_int (fv 0)) (fone (fnot (fisBool E.f_isinstance E.f_bool (fv 0)))))))
theorem sc_is_from_to : FnScope ["value", "least", "most"] ["value", "least", "most"] (defScope s_is_from_to) := ⟨rfl, rfl, rfl, by decide +kernel, rfl, by decide +kernel, by decide +kernel⟩
theorem b_is_from_to (E : EV K mg) : Binds K E.fd_is_from_to ["value", "least", "most"] [] := E.D_is_from_to.bindsN fun _ _ _ _ _ _ us hl => match us, hl with | [_, _, _], _ => rfl
theorem ok_is_from_to (E : EV K mg) : FnF P w K mg base 3 (He.ga K "is_from_to") E.fd_is_from_to ["value", "least", "most"] F_is_from_to := by
  have sc := sc_is_from_to
  refine fnF_of (k := 2) E.D_is_from_to sc_is_from_to (fun Z hZ X cdv A outer s H EE hX hr => ?_)
  subst hX
  have tk : Takes _ (wE EE) := takes_of (X := cxOf (CX P w) P w K mg base ["value", "least", "most"] "is_from_to" (defScope s_is_from_to) (He.ga K "is_from_to") cdv A outer s H EE) rfl rfl rfl rfl
  have hp := passes_of (X := cxOf (CX P w) P w K mg base ["value", "least", "most"] "is_from_to" (defScope s_is_from_to) (He.ga K "is_from_to") cdv A outer s H EE) rfl
  exact (fsone (fret (fand (fcall hZ (ok_is_integer E) ar_is_integer (hr.mono (by decide)) tk E.g_is_integer E.D_is_integer.kp (b_is_integer E) (facons (fv 0) fanil)) (fone (fcleLe (fv 1) (fv 0) (fv 2))))))
theorem sc_check_number : FnScope ["value", "least", "most"] ["value", "least", "most"] (defScope s_check_number) := ⟨rfl, rfl, rfl, by decide +kernel, rfl, by decide +kernel, by decide +kernel⟩
theorem b_check_number (E : EV K mg) : Binds K E.fd_check_number ["value", "least", "most"] [] := E.D_check_number.bindsN fun _ _ _ _ _ _ us hl => match us, hl with | [_, _, _], _ => rfl
theorem ok_check_number (E : EV K mg) : FnF P w K mg base 4 (He.ga K "check_number") E.fd_check_number ["value", "least", "most"] F_check_number := by
  have sc := sc_check_number
  refine fnF_of (k := 3) E.D_check_number sc_check_number (fun Z hZ X cdv A outer s H EE hX hr => ?_)
  subst hX
  have tk : Takes _ (wE EE) := takes_of (X := cxOf (CX P w) P w K mg base ["value", "least", "most"] "check_number" (defScope s_check_number) (He.ga K "check_number") cdv A outer s H EE) rfl rfl rfl rfl
  have hp := passes_of (X := cxOf (CX P w) P w K mg base ["value", "least", "most"] "check_number" (defScope s_check_number) (He.ga K "check_number") cdv A outer s H EE) rfl
  exact (fsone (fsif (ft_not (ft_val (fcall hZ (ok_is_from_to E) ar_is_from_to (hr.mono (by decide)) tk E.g_is_from_to E.D_is_from_to.kp (b_is_from_to E) (facons (fv 0) (facons (fv 1) (facons (fv 2) fanil)))))) (fsone (fraise E.x_InvalidNumber (okx_InvalidNumber E) (by decide) (bx_InvalidNumber E) (hr.mono (by decide)) rfl tk (facons (fv 0) fanil))) fsnil))
theorem sc_check_chain : FnScope ["many", "room"] ["many", "room"] (defScope s_check_chain) := ⟨rfl, rfl, rfl, by decide +kernel, rfl, by decide +kernel, by decide +kernel⟩
theorem b_check_chain (E : EV K mg) : Binds K E.fd_check_chain ["many", "room"] [] := E.D_check_chain.bindsN fun _ _ _ _ _ _ us hl => match us, hl with | [_, _], _ => rfl
theorem ok_check_chain (E : EV K mg) : FnF P w K mg base 5 (He.ga K "check_chain") E.fd_check_chain ["many", "room"] F_check_chain := by
  have sc := sc_check_chain
  refine fnF_of (k := 4) E.D_check_chain sc_check_chain (fun Z hZ X cdv A outer s H EE hX hr => ?_)
  subst hX
  have tk : Takes _ (wE EE) := takes_of (X := cxOf (CX P w) P w K mg base ["many", "room"] "check_chain" (defScope s_check_chain) (He.ga K "check_chain") cdv A outer s H EE) rfl rfl rfl rfl
  have hp := passes_of (X := cxOf (CX P w) P w K mg base ["many", "room"] "check_chain" (defScope s_check_chain) (He.ga K "check_chain") cdv A outer s H EE) rfl
  exact (fscons (fexpr (fcall hZ (ok_check_number E) ar_check_number (hr.mono (by decide)) tk E.g_check_number E.D_check_number.kp (b_check_number E) (facons (fv 0) (facons fint (facons (fglobI rfl E.c_MOST_STEPS) fanil))))) (fsone (fexpr (fcall hZ (ok_check_number E) ar_check_number (hr.mono (by decide)) tk E.g_check_number E.D_check_number.kp (b_check_number E) (facons (fv 1) (facons fint (facons (fglobI rfl E.c_MOST_STEPS) fanil)))))))
theorem sc_on_needed : FnScope ["many", "room", "often"] ["many", "room"] (defScope s_on_needed) := ⟨rfl, rfl, rfl, by decide +kernel, rfl, by decide +kernel, by decide +kernel⟩
theorem b_on_needed (E : EV K mg) : Binds K E.fd_on_needed ["many", "room"] [] := E.D_on_needed.bindsN fun _ _ _ _ _ _ us hl => match us, hl with | [_, _], _ => rfl
theorem ok_on_needed (E : EV K mg) : FnF P w K mg base 2 (He.ga K "on_needed") E.fd_on_needed ["many", "room"] F_on_needed := by
  have sc := sc_on_needed
  refine fnF_of (k := 1) E.D_on_needed sc_on_needed (fun Z hZ X cdv A outer s H EE hX hr => ?_)
  subst hX
  have tk : Takes _ (wE EE) := takes_of (X := cxOf (CX P w) P w K mg base ["many", "room", "often"] "on_needed" (defScope s_on_needed) (He.ga K "on_needed") cdv A outer s H EE) rfl rfl rfl rfl
  have hp := passes_of (X := cxOf (CX P w) P w K mg base ["many", "room", "often"] "on_needed" (defScope s_on_needed) (He.ga K "on_needed") cdv A outer s H EE) rfl
  exact (fscons (fsif (teq hr.units (fv 0) fint) (fsone (fret fint)) fsnil) (fscons (fsif (teq hr.units (fv 1) fint) (fsone (fret fnon)) fsnil) (fscons (fset (i := 2) sc.nd rfl (Or.inl rfl) fint) (fscons (fswhile bigN hp (tlt (fcomb E.b_comb (facons (fadd (fv 1) (fv 2)) (facons (fv 1) fanil))) (fv 0)) (fsone (fsaugAdd (n := 2) sc.nd rfl (Or.inl rfl) fint))) (fsone (fret (fsub (fmul (fv 2) (fv 0)) (fcomb E.b_comb (facons (fadd (fv 1) (fv 2)) (facons (fadd (fv 1) fint) fanil))))))))))
theorem sc_least_on : FnScope ["many", "room"] ["many", "room"] (defScope s_least_on) := ⟨rfl, rfl, rfl, by decide +kernel, rfl, by decide +kernel, by decide +kernel⟩
theorem b_least_on (E : EV K mg) : Binds K E.fd_least_on ["many", "room"] [] := E.D_least_on.bindsN fun _ _ _ _ _ _ us hl => match us, hl with | [_, _], _ => rfl
theorem ok_least_on (E : EV K mg) : FnF P w K mg base 6 (He.ga K "least_on") E.fd_least_on ["many", "room"] F_least_on := by
  have sc := sc_least_on
  refine fnF_of (k := 5) E.D_least_on sc_least_on (fun Z hZ X cdv A outer s H EE hX hr => ?_)
  subst hX
  have tk : Takes _ (wE EE) := takes_of (X := cxOf (CX P w) P w K mg base ["many", "room"] "least_on" (defScope s_least_on) (He.ga K "least_on") cdv A outer s H EE) rfl rfl rfl rfl
  have hp := passes_of (X := cxOf (CX P w) P w K mg base ["many", "room"] "least_on" (defScope s_least_on) (He.ga K "least_on") cdv A outer s H EE) rfl
  exact (fscons (fexpr (fcall hZ (ok_check_chain E) ar_check_chain (hr.mono (by decide)) tk E.g_check_chain E.D_check_chain.kp (b_check_chain E) (facons (fv 0) (facons (fv 1) fanil)))) (fsone (fret (fcall hZ (ok_on_needed E) ar_on_needed (hr.mono (by decide)) tk E.g_on_needed E.D_on_needed.kp (b_on_needed E) (facons (fv 0) (facons (fv 1) fanil))))))
theorem sc__law_least_tried : FnScope ["many", "room", "told", "error"] ["many", "room"] (defScope s__law_least_tried) := ⟨rfl, rfl, rfl, by decide +kernel, rfl, by decide +kernel, by decide +kernel⟩
theorem b__law_least_tried (E : EV K mg) : Binds K E.fd__law_least_tried ["many", "room"] [] := E.D__law_least_tried.bindsN fun _ _ _ _ _ _ us hl => match us, hl with | [_, _], _ => rfl
theorem ok__law_least_tried (E : EV K mg) : FnF P w K mg base 7 (He.ga K "_law_least_tried") E.fd__law_least_tried ["many", "room"] F__law_least_tried := by
  have sc := sc__law_least_tried
  refine fnF_of (k := 6) E.D__law_least_tried sc__law_least_tried (fun Z hZ X cdv A outer s H EE hX hr => ?_)
  subst hX
  have tk : Takes _ (wE EE) := takes_of (X := cxOf (CX P w) P w K mg base ["many", "room", "told", "error"] "_law_least_tried" (defScope s__law_least_tried) (He.ga K "_law_least_tried") cdv A outer s H EE) rfl rfl rfl rfl
  have hp := passes_of (X := cxOf (CX P w) P w K mg base ["many", "room", "told", "error"] "_law_least_tried" (defScope s__law_least_tried) (He.ga K "_law_least_tried") cdv A outer s H EE) rfl
  exact (fscons (fstry (t := exT) hZ rfl rfl sc.nd tk (fun W2 pn2 xe2 tk2 hp2 => (fsone (fset (i := 2) sc.nd rfl (Or.inl rfl) (fcall hZ (ok_least_on E) ar_least_on (hr.mono (by decide)) tk2 E.g_least_on E.D_least_on.kp (b_least_on E) (facons (fv 0) (facons (fv 1) fanil)))))) (.as (⟨rfl, by decide, .inl E.g_InvalidNumber⟩) (E.ex.hx (by decide)) (i := 3) rfl rfl (fun a oe c fs dd pn hc hz hf => (fsone (fret (flst (facons fstr (facons (fxf (i := 3) (E.ex.xi c hc).xf (E.ex.no c hc _ (by decide)) hz hf) fanil)))))) (.cons (⟨rfl, by decide, .inl E.g_DealError⟩) (E.ex.hx (by decide)) (fun a oe c fs dd pn hc hz hf => (fsone (fret (flst (facons fstr (facons fnon fanil)))))) .nil))) (fsone (fret (flst (facons fstr (facons (fv 2) fanil))))))
theorem sc_best_first : FnScope ["many", "room", "best", "found", "first", "behind", "cost"] ["many", "room"] (defScope s_best_first) := ⟨rfl, rfl, rfl, by decide +kernel, rfl, by decide +kernel, by decide +kernel⟩
theorem b_best_first (E : EV K mg) : Binds K E.fd_best_first ["many", "room"] [] := E.D_best_first.bindsN fun _ _ _ _ _ _ us hl => match us, hl with | [_, _], _ => rfl
theorem ok_best_first (E : EV K mg) : FnF P w K mg base 3 (He.ga K "best_first") E.fd_best_first ["many", "room"] F_best_first := by
  have sc := sc_best_first
  refine fnF_of (k := 2) E.D_best_first sc_best_first (fun Z hZ X cdv A outer s H EE hX hr => ?_)
  subst hX
  have tk : Takes _ (wE EE) := takes_of (X := cxOf (CX P w) P w K mg base ["many", "room", "best", "found", "first", "behind", "cost"] "best_first" (defScope s_best_first) (He.ga K "best_first") cdv A outer s H EE) rfl rfl rfl rfl
  have hp := passes_of (X := cxOf (CX P w) P w K mg base ["many", "room", "best", "found", "first", "behind", "cost"] "best_first" (defScope s_best_first) (He.ga K "best_first") cdv A outer s H EE) rfl
  exact (fscons (fset (i := 2) sc.nd rfl (Or.inl rfl) fnon) (fscons (fset (i := 3) sc.nd rfl (Or.inl rfl) fnon) (fscons (fsfor hp rfl (fir2 (by rfl) E.f_range (facons fint (facons (fv 0) fanil))) (fgname (i := 4) sc.nd rfl (Or.inl rfl)) (nxName 4) (fscons (fset (i := 5) sc.nd rfl (Or.inl rfl) (fcall hZ (ok_on_needed E) ar_on_needed (hr.mono (by decide)) tk E.g_on_needed E.D_on_needed.kp (b_on_needed E) (facons (fsub (fv 0) (fv 4)) (facons (fsub (fv 1) fint) fanil)))) (fscons (fsif (tisN (fv 5) fnon) (fsone fct) fsnil) (fscons (fset (i := 6) sc.nd rfl (Or.inl rfl) (fadd (fadd (fv 4) (fv 5)) (fcall hZ (ok_on_needed E) ar_on_needed (hr.mono (by decide)) tk E.g_on_needed E.D_on_needed.kp (b_on_needed E) (facons (fv 4) (facons (fv 1) fanil))))) (fsone (fsif (ft_w (fw_or (tisN (fv 2) fnon) (fw_or1 (tlt (fv 6) (fv 2))))) (fscons (fset (i := 2) sc.nd rfl (Or.inl rfl) (fv 6)) (fsone (fset (i := 3) sc.nd rfl (Or.inl rfl) (fv 4)))) fsnil)))))) (fsone (fret (fv 3))))))
theorem sc_deeds_from : FnScope ["stand", "many", "room", "is_kept", "found", "first"] ["stand", "many", "room", "is_kept"] (defScope s_deeds_from) := ⟨rfl, rfl, rfl, by decide +kernel, rfl, by decide +kernel, by decide +kernel⟩
theorem b_deeds_from (E : EV K mg) : Binds K E.fd_deeds_from ["stand", "many", "room", "is_kept"] [] := E.D_deeds_from.bindsN fun _ _ _ _ _ _ us hl => match us, hl with | [_, _, _, _], _ => rfl
theorem ok_deeds_from (E : EV K mg) : ∀ d, FnF P w K mg base (4 + d) (He.ga K "deeds_from") E.fd_deeds_from ["stand", "many", "room", "is_kept"] (F_deeds_from d)
  | 0 => fnF_bad
  | d + 1 => by
    have ih := ok_deeds_from E d
    have hrec := ar_deeds_from d
    generalize hq : F_deeds_from d = rec at ih hrec
    have sc := sc_deeds_from
    show FnF P w K mg base (4 + d + 1) _ _ _ (defF 4 6 (g_deeds_from (F_deeds_from d)))
    rw [hq]
    refine fnF_of E.D_deeds_from sc_deeds_from (fun Z hZ X cdv A outer s H EE hX hr => ?_)
    subst hX
    have tk : Takes _ (wE EE) := takes_of (X := cxOf (CX P w) P w K mg base ["stand", "many", "room", "is_kept", "found", "first"] "deeds_from" (defScope s_deeds_from) (He.ga K "deeds_from") cdv A outer s H EE) rfl rfl rfl rfl
    have hp := passes_of (X := cxOf (CX P w) P w K mg base ["stand", "many", "room", "is_kept", "found", "first"] "deeds_from" (defScope s_deeds_from) (He.ga K "deeds_from") cdv A outer s H EE) rfl
    exact (fscons (fsif (teq hr.units (fv 1) fint) (fsone (fret (flst (facons (fglobT (zs := ["back"]) rfl E.g_BACK E.t_BACK) fanil)))) fsnil) (fscons (fset (i := 4) sc.nd rfl (Or.inl rfl) (flst fanil)) (fscons (fsif (ft_not (ft_val (fv 3))) (fsone (fexpr (fmeth oAppend PySem.F.slot_list_append rfl mt_append (fv 4) (facons (fglobT (zs := ["keep"]) rfl E.g_KEEP E.t_KEEP) fanil)))) fsnil) (fscons (fset (i := 5) sc.nd rfl (Or.inl rfl) (fcall hZ (ok_best_first E) ar_best_first (hr.mono (by omega)) tk E.g_best_first E.D_best_first.kp (b_best_first E) (facons (fv 1) (facons (fv 2) fanil)))) (fscons (fexpr (fmeth oExtend PySem.F.slot_list_extend rfl mtExtend (fv 4) (facons (fmul (flst (facons (fglobT (zs := ["on"]) rfl E.g_ON E.t_ON) fanil)) (fv 5)) fanil))) (fscons (fexpr (fmeth oExtend PySem.F.slot_list_extend rfl mtExtend (fv 4) (facons (fcall hZ ih hrec (hr.mono (by omega)) tk E.g_deeds_from E.D_deeds_from.kp (b_deeds_from E) (facons (fadd (fv 0) (fv 5)) (facons (fsub (fv 1) (fv 5)) (facons (fsub (fv 2) fint) (facons fbl fanil))))) fanil))) (fscons (fexpr (fmeth oAppend PySem.F.slot_list_append rfl mt_append (fv 4) (facons (ftup (facons fstr (facons (fv 0) fanil))) fanil))) (fscons (fexpr (fmeth oExtend PySem.F.slot_list_extend rfl mtExtend (fv 4) (facons (fcall hZ ih hrec (hr.mono (by omega)) tk E.g_deeds_from E.D_deeds_from.kp (b_deeds_from E) (facons (fv 0) (facons (fv 5) (facons (fv 2) (facons fbl fanil))))) fanil))) (fscons (fsif (ft_not (ft_val (fv 3))) (fsone (fexpr (fmeth oAppend PySem.F.slot_list_append rfl mt_append (fv 4) (facons (ftup (facons fstr (facons (fv 0) fanil))) fanil)))) fsnil) (fsone (fret (fv 4))))))))))))
theorem sc_walk : FnScope ["many", "room"] ["many", "room"] (defScope s_walk) := ⟨rfl, rfl, rfl, by decide +kernel, rfl, by decide +kernel, by decide +kernel⟩
theorem b_walk (E : EV K mg) : Binds K E.fd_walk ["many", "room"] [] := E.D_walk.bindsN fun _ _ _ _ _ _ us hl => match us, hl with | [_, _], _ => rfl
theorem ok_walk (E : EV K mg) : FnF P w K mg base 45 (He.ga K "walk") E.fd_walk ["many", "room"] F_walk := by
  have sc := sc_walk
  refine fnF_of (k := 44) E.D_walk sc_walk (fun Z hZ X cdv A outer s H EE hX hr => ?_)
  subst hX
  have tk : Takes _ (wE EE) := takes_of (X := cxOf (CX P w) P w K mg base ["many", "room"] "walk" (defScope s_walk) (He.ga K "walk") cdv A outer s H EE) rfl rfl rfl rfl
  have hp := passes_of (X := cxOf (CX P w) P w K mg base ["many", "room"] "walk" (defScope s_walk) (He.ga K "walk") cdv A outer s H EE) rfl
  exact (fscons (fexpr (fcall hZ (ok_check_chain E) ar_check_chain (hr.mono (by decide)) tk E.g_check_chain E.D_check_chain.kp (b_check_chain E) (facons (fv 0) (facons (fv 1) fanil)))) (fscons (fsif (tisN (fcall hZ (ok_on_needed E) ar_on_needed (hr.mono (by decide)) tk E.g_on_needed E.D_on_needed.kp (b_on_needed E) (facons (fv 0) (facons (fv 1) fanil))) fnon) (fsone (fraise E.x_Undefined (okx_Undefined E) (by decide) (bx_Undefined E) (hr.mono (by decide)) rfl tk (facons fstr fanil))) fsnil) (fsone (fret (fctuple E.f_tuple (facons (fcall hZ (ok_deeds_from E 40) (ar_deeds_from 40) (hr.mono (by decide)) tk E.g_deeds_from E.D_deeds_from.kp (b_deeds_from E) (facons fint (facons (fv 0) (facons (fv 1) (facons fbl fanil))))) fanil))))))
theorem sc__law_walk_tried : FnScope ["many", "room", "told", "error"] ["many", "room"] (defScope s__law_walk_tried) := ⟨rfl, rfl, rfl, by decide +kernel, rfl, by decide +kernel, by decide +kernel⟩
theorem b__law_walk_tried (E : EV K mg) : Binds K E.fd__law_walk_tried ["many", "room"] [] := E.D__law_walk_tried.bindsN fun _ _ _ _ _ _ us hl => match us, hl with | [_, _], _ => rfl
theorem ok__law_walk_tried (E : EV K mg) : FnF P w K mg base 46 (He.ga K "_law_walk_tried") E.fd__law_walk_tried ["many", "room"] F__law_walk_tried := by
  have sc := sc__law_walk_tried
  refine fnF_of (k := 45) E.D__law_walk_tried sc__law_walk_tried (fun Z hZ X cdv A outer s H EE hX hr => ?_)
  subst hX
  have tk : Takes _ (wE EE) := takes_of (X := cxOf (CX P w) P w K mg base ["many", "room", "told", "error"] "_law_walk_tried" (defScope s__law_walk_tried) (He.ga K "_law_walk_tried") cdv A outer s H EE) rfl rfl rfl rfl
  have hp := passes_of (X := cxOf (CX P w) P w K mg base ["many", "room", "told", "error"] "_law_walk_tried" (defScope s__law_walk_tried) (He.ga K "_law_walk_tried") cdv A outer s H EE) rfl
  exact (fscons (fstry (t := exT) hZ rfl rfl sc.nd tk (fun W2 pn2 xe2 tk2 hp2 => (fsone (fset (i := 2) sc.nd rfl (Or.inl rfl) (fcall hZ (ok_walk E) ar_walk (hr.mono (by decide)) tk2 E.g_walk E.D_walk.kp (b_walk E) (facons (fv 0) (facons (fv 1) fanil)))))) (.as (⟨rfl, by decide, .inl E.g_InvalidNumber⟩) (E.ex.hx (by decide)) (i := 3) rfl rfl (fun a oe c fs dd pn hc hz hf => (fsone (fret (flst (facons fstr (facons (fxf (i := 3) (E.ex.xi c hc).xf (E.ex.no c hc _ (by decide)) hz hf) fanil)))))) (.as (⟨rfl, by decide, .inl E.g_Undefined⟩) (E.ex.hx (by decide)) (i := 3) rfl rfl (fun a oe c fs dd pn hc hz hf => (fsone (fret (flst (facons fstr (facons (fxf (i := 3) (E.ex.xi c hc).xf (E.ex.no c hc _ (by decide)) hz hf) fanil)))))) (.cons (⟨rfl, by decide, .inl E.g_DealError⟩) (E.ex.hx (by decide)) (fun a oe c fs dd pn hc hz hf => (fsone (fret (flst (facons fstr (facons fnon fanil)))))) .nil)))) (fsone (fret (flst (facons fstr (facons (fv 2) fanil))))))
theorem sc__law_walked : FnScope ["value", "many", "room", "at", "left", "steps", "most", "kept", "deed"] ["value", "many", "room"] (defScope s__law_walked) := ⟨rfl, rfl, rfl, by decide +kernel, rfl, by decide +kernel, by decide +kernel⟩
theorem b__law_walked (E : EV K mg) : Binds K E.fd__law_walked ["value", "many", "room"] [] := E.D__law_walked.bindsN fun _ _ _ _ _ _ us hl => match us, hl with | [_, _, _], _ => rfl
theorem ok__law_walked (E : EV K mg) : FnF P w K mg base 3 (He.ga K "_law_walked") E.fd__law_walked ["value", "many", "room"] F__law_walked := by
  have sc := sc__law_walked
  refine fnF_of (k := 2) E.D__law_walked sc__law_walked (fun Z hZ X cdv A outer s H EE hX hr => ?_)
  subst hX
  have tk : Takes _ (wE EE) := takes_of (X := cxOf (CX P w) P w K mg base ["value", "many", "room", "at", "left", "steps", "most", "kept", "deed"] "_law_walked" (defScope s__law_walked) (He.ga K "_law_walked") cdv A outer s H EE) rfl rfl rfl rfl
  have hp := passes_of (X := cxOf (CX P w) P w K mg base ["value", "many", "room", "at", "left", "steps", "most", "kept", "deed"] "_law_walked" (defScope s__law_walked) (He.ga K "_law_walked") cdv A outer s H EE) rfl
  exact (fscons (fsif (ft_not (ft_val (fisTuple E.f_isinstance E.f_tuple (fv 0)))) (fsone (fret fnon)) fsnil) (fscons (fset (i := 3) sc.nd rfl (Or.inl rfl) fint) (fscons (fset (i := 4) sc.nd rfl (Or.inl rfl) (fv 1)) (fscons (fset (i := 5) sc.nd rfl (Or.inl rfl) fint) (fscons (fset (i := 6) sc.nd rfl (Or.inl rfl) fint) (fscons (fset (i := 7) sc.nd rfl (Or.inl rfl) fdnew) (fscons (fsfor hp rfl (fiseq (fv 0)) (fgname (i := 8) sc.nd rfl (Or.inl rfl)) (nxName 8) (fscons (fsif (ft_w (fw_or (ft_not (ft_val (fisTuple E.f_isinstance E.f_tuple (fv 8)))) (fw_or (teq hr.units (flen E.f_len (facons (fv 8) fanil)) fint) (fw_or (tgt (flen E.f_len (facons (fv 8) fanil)) fint) (fw_or1 (ft_not (ft_val (fisStr E.f_isinstance E.f_str (fidx (fv 8) fint))))))))) (fsone (fret fnon)) fsnil) (fsone (fsif (ft_w (fw_and (teq hr.units (fv 8) (ftup (facons fstr fanil))) (fw_and1 (tlt (fv 3) (fsub (fv 1) fint))))) (fscons (fset (i := 3) sc.nd rfl (Or.inl rfl) (fadd (fv 3) fint)) (fsone (fset (i := 5) sc.nd rfl (Or.inl rfl) (fadd (fv 5) fint)))) (fsone (fsif (ft_w (fw_and (teq hr.units (fv 8) (ftup (facons fstr fanil))) (fw_and (tninD false (u1 hr.units) (fv 3) (fv 7)) (fw_and1 (tlt (flenD E.f_len (facons (fv 7) fanil)) (fv 2)))))) (fscons (fasg fbl (fgsubD (W := W0) false (u1 hr.units) (fv 7) (fv 3)) nxSubD) (fsone (fset (i := 6) sc.nd rfl (Or.inl rfl) (fmax2 rfl E.f_max (facons (fv 6) (facons (flenD E.f_len (facons (fv 7) fanil)) fanil)))))) (fsone (fsif (ft_w (fw_and (teq hr.units (fv 8) (ftup (facons fstr fanil))) (fw_and (tgt (fv 4) fint) (fw_and1 (teq hr.units (fv 3) (fsub (fv 4) fint)))))) (fsone (fset (i := 4) sc.nd rfl (Or.inl rfl) (fsub (fv 4) fint))) (fsone (fsif (ft_w (fw_and (teq hr.units (flen E.f_len (facons (fv 8) fanil)) fint) (fw_and (ft_val (fcall hZ (ok__law_is_number E) ar__law_is_number (hr.mono (by decide)) tk E.g__law_is_number E.D__law_is_number.kp (b__law_is_number E) (facons (fidx (fv 8) fint) fanil))) (fw_and (tinD false (u1 hr.units) (fidx (fv 8) fint) (fv 7)) (fw_and1 (teq hr.units (fidx (fv 8) fint) fstr)))))) (fsone (fset (i := 3) sc.nd rfl (Or.inl rfl) (fidx (fv 8) fint))) (fsone (fsif (ft_w (fw_and (teq hr.units (flen E.f_len (facons (fv 8) fanil)) fint) (fw_and (ft_val (fcall hZ (ok__law_is_number E) ar__law_is_number (hr.mono (by decide)) tk E.g__law_is_number E.D__law_is_number.kp (b__law_is_number E) (facons (fidx (fv 8) fint) fanil))) (fw_and (tinD false (u1 hr.units) (fidx (fv 8) fint) (fv 7)) (fw_and1 (teq hr.units (fidx (fv 8) fint) fstr)))))) (fsone (fexpr (fdpop (fv 7) (fidx (fv 8) fint)))) (fsone (fret fnon)))))))))))))) (fscons (fsif (tgt (fv 4) fint) (fsone (fret fnon)) fsnil) (fsone (fret (flst (facons (fv 5) (facons (fv 6) fanil)))))))))))))
theorem sc__law_is_least : FnScope ["many", "room", "due", "told", "walked"] ["many", "room", "due"] (defScope s__law_is_least) := ⟨rfl, rfl, rfl, by decide +kernel, rfl, by decide +kernel, by decide +kernel⟩
theorem b__law_is_least (E : EV K mg) : Binds K E.fd__law_is_least ["many", "room", "due"] [] := E.D__law_is_least.bindsN fun _ _ _ _ _ _ us hl => match us, hl with | [_, _, _], _ => rfl
theorem ok__law_is_least (E : EV K mg) : FnF P w K mg base 47 (He.ga K "_law_is_least") E.fd__law_is_least ["many", "room", "due"] F__law_is_least := by
  have sc := sc__law_is_least
  refine fnF_of (k := 46) E.D__law_is_least sc__law_is_least (fun Z hZ X cdv A outer s H EE hX hr => ?_)
  subst hX
  have tk : Takes _ (wE EE) := takes_of (X := cxOf (CX P w) P w K mg base ["many", "room", "due", "told", "walked"] "_law_is_least" (defScope s__law_is_least) (He.ga K "_law_is_least") cdv A outer s H EE) rfl rfl rfl rfl
  have hp := passes_of (X := cxOf (CX P w) P w K mg base ["many", "room", "due", "told", "walked"] "_law_is_least" (defScope s__law_is_least) (He.ga K "_law_is_least") cdv A outer s H EE) rfl
  exact (fscons (fset (i := 3) sc.nd rfl (Or.inl rfl) (fcall hZ (ok__law_least_tried E) ar__law_least_tried (hr.mono (by decide)) tk E.g__law_least_tried E.D__law_least_tried.kp (b__law_least_tried E) (facons (fv 0) (facons (fv 1) fanil)))) (fscons (fsif (ft_w (fw_or (tne hr.units (fidx (fv 3) fint) fstr) (fw_or (ft_val (fisBool E.f_isinstance E.f_bool (fidx (fv 3) fint))) (fw_or1 (tne hr.units (fidx (fv 3) fint) (fv 2)))))) (fsone (fret fbl)) fsnil) (fscons (fset (i := 3) sc.nd rfl (Or.inl rfl) (fcall hZ (ok__law_walk_tried E) ar__law_walk_tried (hr.mono (by decide)) tk E.g__law_walk_tried E.D__law_walk_tried.kp (b__law_walk_tried E) (facons (fv 0) (facons (fv 1) fanil)))) (fscons (fsif (tisN (fv 2) fnon) (fsone (fret (feq hr.units (fv 3) (flst (facons fstr (facons fstr fanil)))))) fsnil) (fscons (fsif (ft_w (fw_or (tne hr.units (fidx (fv 3) fint) fstr) (fw_or1 (ft_not (ft_val (fisTuple E.f_isinstance E.f_tuple (fidx (fv 3) fint))))))) (fsone (fret fbl)) fsnil) (fscons (fset (i := 4) sc.nd rfl (Or.inl rfl) (fcall hZ (ok__law_walked E) ar__law_walked (hr.mono (by decide)) tk E.g__law_walked E.D__law_walked.kp (b__law_walked E) (facons (fidx (fv 3) fint) (facons (fv 0) (facons (fv 1) fanil))))) (fsone (fret (fand (fnotN (fv 4) fnon) (fone (feq hr.units (fidx (fv 4) fint) (fv 2))))))))))))
theorem sc__law_odd : FnScope ["box"] ["box"] (defScope s__law_odd) := ⟨rfl, rfl, rfl, by decide +kernel, rfl, by decide +kernel, by decide +kernel⟩
theorem b__law_odd (E : EV K mg) : Binds K E.fd__law_odd ["box"] [] := E.D__law_odd.bindsN fun _ _ _ _ _ _ us hl => match us, hl with | [_], _ => rfl
theorem ok__law_odd (E : EV K mg) : FnF P w K mg base 3 (He.ga K "_law_odd") E.fd__law_odd ["box"] F__law_odd := by
  have sc := sc__law_odd
  refine fnF_of (k := 2) E.D__law_odd sc__law_odd (fun Z hZ X cdv A outer s H EE hX hr => ?_)
  subst hX
  have tk : Takes _ (wE EE) := takes_of (X := cxOf (CX P w) P w K mg base ["box"] "_law_odd" (defScope s__law_odd) (He.ga K "_law_odd") cdv A outer s H EE) rfl rfl rfl rfl
  have hp := passes_of (X := cxOf (CX P w) P w K mg base ["box"] "_law_odd" (defScope s__law_odd) (He.ga K "_law_odd") cdv A outer s H EE) rfl
  exact (fsone (fret (fidx (flst (facons fint (facons fint (facons (fneg fint) (facons fbl (facons fbl (facons fnon (facons fstr (facons (ftup (facons fint fanil)) (facons fstr (facons (fpow fint fint) (facons (fneg fint) (facons fint (facons (ftup fanil) (facons (ftup (facons (ftup (facons fint (facons fint fanil))) (facons fint fanil))) fanil))))))))))))))) (fcall hZ (ok__law_draw E) ar__law_draw (hr.mono (by decide)) tk E.g__law_draw E.D__law_draw.kp (b__law_draw E) (facons (fv 0) (facons fint fanil))))))
theorem sc__law_choose : FnScope ["many", "some", "told", "k"] ["many", "some"] (defScope s__law_choose) := ⟨rfl, rfl, rfl, by decide +kernel, rfl, by decide +kernel, by decide +kernel⟩
theorem b__law_choose (E : EV K mg) : Binds K E.fd__law_choose ["many", "some"] [] := E.D__law_choose.bindsN fun _ _ _ _ _ _ us hl => match us, hl with | [_, _], _ => rfl
theorem ok__law_choose (E : EV K mg) : FnF P w K mg base 2 (He.ga K "_law_choose") E.fd__law_choose ["many", "some"] F__law_choose := by
  have sc := sc__law_choose
  refine fnF_of (k := 1) E.D__law_choose sc__law_choose (fun Z hZ X cdv A outer s H EE hX hr => ?_)
  subst hX
  have tk : Takes _ (wE EE) := takes_of (X := cxOf (CX P w) P w K mg base ["many", "some", "told", "k"] "_law_choose" (defScope s__law_choose) (He.ga K "_law_choose") cdv A outer s H EE) rfl rfl rfl rfl
  have hp := passes_of (X := cxOf (CX P w) P w K mg base ["many", "some", "told", "k"] "_law_choose" (defScope s__law_choose) (He.ga K "_law_choose") cdv A outer s H EE) rfl
  exact (fscons (fsif (tgt (fv 1) (fv 0)) (fsone (fret fint)) fsnil) (fscons (fset (i := 2) sc.nd rfl (Or.inl rfl) fint) (fscons (fsfor hp rfl (fir1 (by rfl) E.f_range (facons (fmin2 rfl E.f_min (facons (fv 1) (facons (fsub (fv 0) (fv 1)) fanil))) fanil)) (fgname (i := 3) sc.nd rfl (Or.inl rfl)) (nxName 3) (fsone (fset (i := 2) sc.nd rfl (Or.inl rfl) (ffdiv (fmul (fv 2) (fsub (fv 0) (fv 3))) (fadd (fv 3) fint))))) (fsone (fret (fv 2))))))
theorem sc__law_least : FnScope ["many", "room", "turns", "k"] ["many", "room"] (defScope s__law_least) := ⟨rfl, rfl, rfl, by decide +kernel, rfl, by decide +kernel, by decide +kernel⟩
theorem b__law_least (E : EV K mg) : Binds K E.fd__law_least ["many", "room"] [] := E.D__law_least.bindsN fun _ _ _ _ _ _ us hl => match us, hl with | [_, _], _ => rfl
theorem ok__law_least (E : EV K mg) : FnF P w K mg base 3 (He.ga K "_law_least") E.fd__law_least ["many", "room"] F__law_least := by
  have sc := sc__law_least
  refine fnF_of (k := 2) E.D__law_least sc__law_least (fun Z hZ X cdv A outer s H EE hX hr => ?_)
  subst hX
  have tk : Takes _ (wE EE) := takes_of (X := cxOf (CX P w) P w K mg base ["many", "room", "turns", "k"] "_law_least" (defScope s__law_least) (He.ga K "_law_least") cdv A outer s H EE) rfl rfl rfl rfl
  have hp := passes_of (X := cxOf (CX P w) P w K mg base ["many", "room", "turns", "k"] "_law_least" (defScope s__law_least) (He.ga K "_law_least") cdv A outer s H EE) rfl
  exact (fscons (fsif (teq hr.units (fv 0) fint) (fsone (fret fint)) fsnil) (fscons (fsif (teq hr.units (fv 1) fint) (fsone (fret fnon)) fsnil) (fscons (fset (i := 2) sc.nd rfl (Or.inl rfl) fint) (fscons (fsfor hp rfl (fir1 (by rfl) E.f_range (facons fint fanil)) (fgname (i := 3) sc.nd rfl (Or.inl rfl)) (nxName 3) (fscons (fsif (tge (fcall hZ (ok__law_choose E) ar__law_choose (hr.mono (by decide)) tk E.g__law_choose E.D__law_choose.kp (b__law_choose E) (facons (fadd (fv 1) (fv 2)) (facons (fv 1) fanil))) (fv 0)) (fsone fbrk) fsnil) (fsone (fset (i := 2) sc.nd rfl (Or.inl rfl) (fadd (fv 2) fint))))) (fsone (fret (fsub (fmul (fv 2) (fv 0)) (fcall hZ (ok__law_choose E) ar__law_choose (hr.mono (by decide)) tk E.g__law_choose E.D__law_choose.kp (b__law_choose E) (facons (fadd (fv 1) (fv 2)) (facons (fadd (fv 1) fint) fanil))))))))))
theorem sc_law : FnScope ["script", "box", "many", "room", "due", "pair", "at", "wrong"] ["script"] (defScope s_law) := ⟨rfl, rfl, rfl, by decide +kernel, rfl, by decide +kernel, by decide +kernel⟩
theorem b_law (E : EV K mg) : Binds K E.fd_law ["script"] [] := E.D_law.bindsN fun _ _ _ _ _ _ us hl => match us, hl with | [_], _ => rfl
theorem ok_law (E : EV K mg) : FnF P w K mg base 48 (He.ga K "law") E.fd_law ["script"] F_law := by
  have sc := sc_law
  refine fnF_of (k := 47) E.D_law sc_law (fun Z hZ X cdv A outer s H EE hX hr => ?_)
  subst hX
  have tk : Takes _ (wE EE) := takes_of (X := cxOf (CX P w) P w K mg base ["script", "box", "many", "room", "due", "pair", "at", "wrong"] "law" (defScope s_law) (He.ga K "law") cdv A outer s H EE) rfl rfl rfl rfl
  have hp := passes_of (X := cxOf (CX P w) P w K mg base ["script", "box", "many", "room", "due", "pair", "at", "wrong"] "law" (defScope s_law) (He.ga K "law") cdv A outer s H EE) rfl
  exact (fscons (fset (i := 1) sc.nd rfl (Or.inl rfl) (fcall hZ (ok__law_box E) ar__law_box (hr.mono (by decide)) tk E.g__law_box E.D__law_box.kp (b__law_box E) (facons (fv 0) fanil))) (fscons (fset (i := 2) sc.nd rfl (Or.inl rfl) (fidx (flst (facons fint (facons fint (facons fint (facons fint (facons fint (facons fint (facons fint (facons fint fanil))))))))) (fcall hZ (ok__law_draw E) ar__law_draw (hr.mono (by decide)) tk E.g__law_draw E.D__law_draw.kp (b__law_draw E) (facons (fv 1) (facons fint fanil))))) (fscons (fset (i := 3) sc.nd rfl (Or.inl rfl) (fcall hZ (ok__law_draw E) ar__law_draw (hr.mono (by decide)) tk E.g__law_draw E.D__law_draw.kp (b__law_draw E) (facons (fv 1) (facons fint fanil)))) (fscons (fset (i := 4) sc.nd rfl (Or.inl rfl) (fcall hZ (ok__law_searched E) ar__law_searched (hr.mono (by decide)) tk E.g__law_searched E.D__law_searched.kp (b__law_searched E) (facons (fv 2) (facons (fv 3) fanil)))) (fscons (fsif (ft_w (fw_or (tne hr.units (fv 4) (fcall hZ (ok__law_least E) ar__law_least (hr.mono (by decide)) tk E.g__law_least E.D__law_least.kp (b__law_least E) (facons (fv 2) (facons (fv 3) fanil)))) (fw_or1 (ft_not (ft_val (fcall hZ (ok__law_is_least E) ar__law_is_least (hr.mono (by decide)) tk E.g__law_is_least E.D__law_is_least.kp (b__law_is_least E) (facons (fv 2) (facons (fv 3) (facons (fv 4) fanil))))))))) (fsone (fret fbl)) fsnil) (fscons (fset (i := 2) sc.nd rfl (Or.inl rfl) (fadd fint (fcall hZ (ok__law_draw E) ar__law_draw (hr.mono (by decide)) tk E.g__law_draw E.D__law_draw.kp (b__law_draw E) (facons (fv 1) (facons fint fanil))))) (fscons (fset (i := 3) sc.nd rfl (Or.inl rfl) (fcall hZ (ok__law_draw E) ar__law_draw (hr.mono (by decide)) tk E.g__law_draw E.D__law_draw.kp (b__law_draw E) (facons (fv 1) (facons (fidx (flst (facons fint (facons fint (facons fint fanil)))) (fcall hZ (ok__law_draw E) ar__law_draw (hr.mono (by decide)) tk E.g__law_draw E.D__law_draw.kp (b__law_draw E) (facons (fv 1) (facons fint fanil)))) fanil)))) (fscons (fsif (ft_not (ft_val (fcall hZ (ok__law_is_least E) ar__law_is_least (hr.mono (by decide)) tk E.g__law_is_least E.D__law_is_least.kp (b__law_is_least E) (facons (fv 2) (facons (fv 3) (facons (fcall hZ (ok__law_least E) ar__law_least (hr.mono (by decide)) tk E.g__law_least E.D__law_least.kp (b__law_least E) (facons (fv 2) (facons (fv 3) fanil))) fanil)))))) (fsone (fret fbl)) fsnil) (fscons (fset (i := 5) sc.nd rfl (Or.inl rfl) (flst (facons (fidx (flst (facons fint (facons fint (facons fint (facons (fv 2) fanil))))) (fcall hZ (ok__law_draw E) ar__law_draw (hr.mono (by decide)) tk E.g__law_draw E.D__law_draw.kp (b__law_draw E) (facons (fv 1) (facons fint fanil)))) (facons (fidx (flst (facons fint (facons fint (facons fint (facons (fv 3) fanil))))) (fcall hZ (ok__law_draw E) ar__law_draw (hr.mono (by decide)) tk E.g__law_draw E.D__law_draw.kp (b__law_draw E) (facons (fv 1) (facons fint fanil)))) fanil)))) (fscons (fset (i := 6) sc.nd rfl (Or.inl rfl) (fcall hZ (ok__law_draw E) ar__law_draw (hr.mono (by decide)) tk E.g__law_draw E.D__law_draw.kp (b__law_draw E) (facons (fv 1) (facons fint fanil)))) (fscons (fsif (tne hr.units (fv 6) fint) (fsone (fasg (fcall hZ (ok__law_odd E) ar__law_odd (hr.mono (by decide)) tk E.g__law_odd E.D__law_odd.kp (b__law_odd E) (facons (fv 1) fanil)) (fgsub (W := W0) (fv 5) fint) nxSub)) fsnil) (fscons (fsif (tne hr.units (fv 6) fint) (fsone (fasg (fcall hZ (ok__law_odd E) ar__law_odd (hr.mono (by decide)) tk E.g__law_odd E.D__law_odd.kp (b__law_odd E) (facons (fv 1) fanil)) (fgsub (W := W0) (fv 5) fint) nxSub)) fsnil) (fscons (fset (i := 7) sc.nd rfl (Or.inl rfl) (fcall hZ (ok__law_wrong E) ar__law_wrong (hr.mono (by decide)) tk E.g__law_wrong E.D__law_wrong.kp (b__law_wrong E) (facons (fidx (fv 5) fint) (facons (fidx (fv 5) fint) fanil)))) (fscons (fsif (teq hr.units (flen E.f_len (facons (fv 7) fanil)) fint) (fsone (fret (fcall hZ (ok__law_is_least E) ar__law_is_least (hr.mono (by decide)) tk E.g__law_is_least E.D__law_is_least.kp (b__law_is_least E) (facons (fidx (fv 5) fint) (facons (fidx (fv 5) fint) (facons (fcall hZ (ok__law_least E) ar__law_least (hr.mono (by decide)) tk E.g__law_least E.D__law_least.kp (b__law_least E) (facons (fidx (fv 5) fint) (facons (fidx (fv 5) fint) fanil))) fanil)))))) fsnil) (fscons (fsif (ft_not (ft_val (fcall hZ (ok__law_refused E) ar__law_refused (hr.mono (by decide)) tk E.g__law_refused E.D__law_refused.kp (b__law_refused E) (facons (fcall hZ (ok__law_least_tried E) ar__law_least_tried (hr.mono (by decide)) tk E.g__law_least_tried E.D__law_least_tried.kp (b__law_least_tried E) (facons (fidx (fv 5) fint) (facons (fidx (fv 5) fint) fanil))) (facons (fv 7) fanil))))) (fsone (fret fbl)) fsnil) (fsone (fret (fcall hZ (ok__law_refused E) ar__law_refused (hr.mono (by decide)) tk E.g__law_refused E.D__law_refused.kp (b__law_refused E) (facons (fcall hZ (ok__law_walk_tried E) ar__law_walk_tried (hr.mono (by decide)) tk E.g__law_walk_tried E.D__law_walk_tried.kp (b__law_walk_tried E) (facons (fidx (fv 5) fint) (facons (fidx (fv 5) fint) fanil))) (facons (fv 7) fanil))))))))))))))))))))
end
def dfs : List He.DefD := [⟨("_law_box", none), "_law_box", "_law_box", defArgs s__law_box, defBody s__law_box, defScope s__law_box, [], []⟩,
  ⟨("_law_draw", none), "_law_draw", "_law_draw", defArgs s__law_draw, defBody s__law_draw, defScope s__law_draw, [], []⟩,
  ⟨("_law_free", none), "_law_free", "_law_free", defArgs s__law_free, defBody s__law_free, defScope s__law_free, [], []⟩,
  ⟨("_law_searched", none), "_law_searched", "_law_searched", defArgs s__law_searched, defBody s__law_searched, defScope s__law_searched, [], []⟩,
  ⟨("_law_is_number", none), "_law_is_number", "_law_is_number", defArgs s__law_is_number, defBody s__law_is_number, defScope s__law_is_number, [], []⟩,
  ⟨("_law_wrong", none), "_law_wrong", "_law_wrong", defArgs s__law_wrong, defBody s__law_wrong, defScope s__law_wrong, [], []⟩,
  ⟨("_law_refused", none), "_law_refused", "_law_refused", defArgs s__law_refused, defBody s__law_refused, defScope s__law_refused, [], []⟩,
  ⟨("is_integer", none), "is_integer", "is_integer", defArgs s_is_integer, defBody s_is_integer, defScope s_is_integer, [], []⟩,
  ⟨("is_from_to", none), "is_from_to", "is_from_to", defArgs s_is_from_to, defBody s_is_from_to, defScope s_is_from_to, [], []⟩,
  ⟨("check_number", none), "check_number", "check_number", defArgs s_check_number, defBody s_check_number, defScope s_check_number, [], []⟩,
  ⟨("check_chain", none), "check_chain", "check_chain", defArgs s_check_chain, defBody s_check_chain, defScope s_check_chain, [], []⟩,
  ⟨("on_needed", none), "on_needed", "on_needed", defArgs s_on_needed, defBody s_on_needed, defScope s_on_needed, [], []⟩,
  ⟨("least_on", none), "least_on", "least_on", defArgs s_least_on, defBody s_least_on, defScope s_least_on, [], []⟩,
  ⟨("_law_least_tried", none), "_law_least_tried", "_law_least_tried", defArgs s__law_least_tried, defBody s__law_least_tried, defScope s__law_least_tried, [], []⟩,
  ⟨("best_first", none), "best_first", "best_first", defArgs s_best_first, defBody s_best_first, defScope s_best_first, [], []⟩,
  ⟨("deeds_from", none), "deeds_from", "deeds_from", defArgs s_deeds_from, defBody s_deeds_from, defScope s_deeds_from, [], []⟩,
  ⟨("walk", none), "walk", "walk", defArgs s_walk, defBody s_walk, defScope s_walk, [], []⟩,
  ⟨("_law_walk_tried", none), "_law_walk_tried", "_law_walk_tried", defArgs s__law_walk_tried, defBody s__law_walk_tried, defScope s__law_walk_tried, [], []⟩,
  ⟨("_law_walked", none), "_law_walked", "_law_walked", defArgs s__law_walked, defBody s__law_walked, defScope s__law_walked, [], []⟩,
  ⟨("_law_is_least", none), "_law_is_least", "_law_is_least", defArgs s__law_is_least, defBody s__law_is_least, defScope s__law_is_least, [], []⟩,
  ⟨("_law_odd", none), "_law_odd", "_law_odd", defArgs s__law_odd, defBody s__law_odd, defScope s__law_odd, [], []⟩,
  ⟨("_law_choose", none), "_law_choose", "_law_choose", defArgs s__law_choose, defBody s__law_choose, defScope s__law_choose, [], []⟩,
  ⟨("_law_least", none), "_law_least", "_law_least", defArgs s__law_least, defBody s__law_least, defScope s__law_least, [], []⟩,
  ⟨("law", none), "law", "law", defArgs s_law, defBody s_law, defScope s_law, [], []⟩,
  ⟨("InvalidNumber", some "__init__"), "__init__", "InvalidNumber.__init__", defArgs s_InvalidNumber, defBody s_InvalidNumber, defScope s_InvalidNumber, [], []⟩,
  ⟨("Undefined", some "__init__"), "__init__", "Undefined.__init__", defArgs s_Undefined, defBody s_Undefined, defScope s_Undefined, [], []⟩]
def fas : List He.Fa := [.glo "_law_box", .glo "_law_draw", .glo "_law_free", .glo "_law_searched", .glo "_law_is_number", .glo "_law_wrong", .glo "_law_refused", .glo "is_integer", .glo "is_from_to", .glo "check_number", .glo "check_chain", .glo "on_needed", .glo "least_on", .glo "_law_least_tried", .glo "best_first", .glo "deeds_from", .glo "walk", .glo "_law_walk_tried", .glo "_law_walked", .glo "_law_is_least", .glo "_law_odd", .glo "_law_choose", .glo "_law_least", .glo "law", .glo "InvalidNumber", .glo "Undefined", .meth "InvalidNumber" "__init__", .noat "InvalidNumber" "number", .meth "Undefined" "__init__", .noat "Undefined" "what", .glo "DealError", .glo "InvalidNumber", .int "MOST_STEPS" 40, .glo "Undefined", .free "abs", .free "bool", .free "int", .free "isinstance", .free "len", .free "max", .free "min", .free "range", .free "str", .free "tuple", .glo "BACK", .glo "KEEP", .glo "ON"]
def exq (K : PySem.W.Frag) : Bool := exB exT exN exK exF K && oexB K (He.ga K "InvalidNumber") && oexB K (He.ga K "Undefined") && tupWB K "BACK" ["back"] && tupWB K "KEEP" ["keep"] && tupWB K "ON" ["on"] && bfnB K "comb" "math.comb"
theorem ev_of {K : PySem.W.Frag} {h : Heap} {mg : Str → Option Value} (X : K.In h) (G : h.Ns mainGlobals mg) (c : SaysL fas dfs exq K) : Nonempty (EV K mg) := by
  obtain ⟨c, q⟩ := c
  obtain ⟨fd__law_box, D__law_box⟩ := c.def_ 0 rfl
  obtain ⟨fd__law_draw, D__law_draw⟩ := c.def_ 1 rfl
  obtain ⟨fd__law_free, D__law_free⟩ := c.def_ 2 rfl
  obtain ⟨fd__law_searched, D__law_searched⟩ := c.def_ 3 rfl
  obtain ⟨fd__law_is_number, D__law_is_number⟩ := c.def_ 4 rfl
  obtain ⟨fd__law_wrong, D__law_wrong⟩ := c.def_ 5 rfl
  obtain ⟨fd__law_refused, D__law_refused⟩ := c.def_ 6 rfl
  obtain ⟨fd_is_integer, D_is_integer⟩ := c.def_ 7 rfl
  obtain ⟨fd_is_from_to, D_is_from_to⟩ := c.def_ 8 rfl
  obtain ⟨fd_check_number, D_check_number⟩ := c.def_ 9 rfl
  obtain ⟨fd_check_chain, D_check_chain⟩ := c.def_ 10 rfl
  obtain ⟨fd_on_needed, D_on_needed⟩ := c.def_ 11 rfl
  obtain ⟨fd_least_on, D_least_on⟩ := c.def_ 12 rfl
  obtain ⟨fd__law_least_tried, D__law_least_tried⟩ := c.def_ 13 rfl
  obtain ⟨fd_best_first, D_best_first⟩ := c.def_ 14 rfl
  obtain ⟨fd_deeds_from, D_deeds_from⟩ := c.def_ 15 rfl
  obtain ⟨fd_walk, D_walk⟩ := c.def_ 16 rfl
  obtain ⟨fd__law_walk_tried, D__law_walk_tried⟩ := c.def_ 17 rfl
  obtain ⟨fd__law_walked, D__law_walked⟩ := c.def_ 18 rfl
  obtain ⟨fd__law_is_least, D__law_is_least⟩ := c.def_ 19 rfl
  obtain ⟨fd__law_odd, D__law_odd⟩ := c.def_ 20 rfl
  obtain ⟨fd__law_choose, D__law_choose⟩ := c.def_ 21 rfl
  obtain ⟨fd__law_least, D__law_least⟩ := c.def_ 22 rfl
  obtain ⟨fd_law, D_law⟩ := c.def_ 23 rfl
  obtain ⟨fd_InvalidNumber, D_InvalidNumber⟩ := c.def_ 24 rfl
  obtain ⟨fd_Undefined, D_Undefined⟩ := c.def_ 25 rfl
  obtain ⟨q, qb_comb⟩ := Bool.and_eq_true_iff.mp q
  obtain ⟨q, qt_ON⟩ := Bool.and_eq_true_iff.mp q
  obtain ⟨q, qt_KEEP⟩ := Bool.and_eq_true_iff.mp q
  obtain ⟨q, qt_BACK⟩ := Bool.and_eq_true_iff.mp q
  obtain ⟨q, q_Undefined⟩ := Bool.and_eq_true_iff.mp q
  obtain ⟨q, q_InvalidNumber⟩ := Bool.and_eq_true_iff.mp q
  exact ⟨{
    fd__law_box := fd__law_box, D__law_box := D__law_box, g__law_box := He.glo_ok X G (c.fact 0 rfl),
    fd__law_draw := fd__law_draw, D__law_draw := D__law_draw, g__law_draw := He.glo_ok X G (c.fact 1 rfl),
    fd__law_free := fd__law_free, D__law_free := D__law_free, g__law_free := He.glo_ok X G (c.fact 2 rfl),
    fd__law_searched := fd__law_searched, D__law_searched := D__law_searched, g__law_searched := He.glo_ok X G (c.fact 3 rfl),
    fd__law_is_number := fd__law_is_number, D__law_is_number := D__law_is_number, g__law_is_number := He.glo_ok X G (c.fact 4 rfl),
    fd__law_wrong := fd__law_wrong, D__law_wrong := D__law_wrong, g__law_wrong := He.glo_ok X G (c.fact 5 rfl),
    fd__law_refused := fd__law_refused, D__law_refused := D__law_refused, g__law_refused := He.glo_ok X G (c.fact 6 rfl),
    fd_is_integer := fd_is_integer, D_is_integer := D_is_integer, g_is_integer := He.glo_ok X G (c.fact 7 rfl),
    fd_is_from_to := fd_is_from_to, D_is_from_to := D_is_from_to, g_is_from_to := He.glo_ok X G (c.fact 8 rfl),
    fd_check_number := fd_check_number, D_check_number := D_check_number, g_check_number := He.glo_ok X G (c.fact 9 rfl),
    fd_check_chain := fd_check_chain, D_check_chain := D_check_chain, g_check_chain := He.glo_ok X G (c.fact 10 rfl),
    fd_on_needed := fd_on_needed, D_on_needed := D_on_needed, g_on_needed := He.glo_ok X G (c.fact 11 rfl),
    fd_least_on := fd_least_on, D_least_on := D_least_on, g_least_on := He.glo_ok X G (c.fact 12 rfl),
    fd__law_least_tried := fd__law_least_tried, D__law_least_tried := D__law_least_tried, g__law_least_tried := He.glo_ok X G (c.fact 13 rfl),
    fd_best_first := fd_best_first, D_best_first := D_best_first, g_best_first := He.glo_ok X G (c.fact 14 rfl),
    fd_deeds_from := fd_deeds_from, D_deeds_from := D_deeds_from, g_deeds_from := He.glo_ok X G (c.fact 15 rfl),
    fd_walk := fd_walk, D_walk := D_walk, g_walk := He.glo_ok X G (c.fact 16 rfl),
    fd__law_walk_tried := fd__law_walk_tried, D__law_walk_tried := D__law_walk_tried, g__law_walk_tried := He.glo_ok X G (c.fact 17 rfl),
    fd__law_walked := fd__law_walked, D__law_walked := D__law_walked, g__law_walked := He.glo_ok X G (c.fact 18 rfl),
    fd__law_is_least := fd__law_is_least, D__law_is_least := D__law_is_least, g__law_is_least := He.glo_ok X G (c.fact 19 rfl),
    fd__law_odd := fd__law_odd, D__law_odd := D__law_odd, g__law_odd := He.glo_ok X G (c.fact 20 rfl),
    fd__law_choose := fd__law_choose, D__law_choose := D__law_choose, g__law_choose := He.glo_ok X G (c.fact 21 rfl),
    fd__law_least := fd__law_least, D__law_least := D__law_least, g__law_least := He.glo_ok X G (c.fact 22 rfl),
    fd_law := fd_law, D_law := D_law, g_law := He.glo_ok X G (c.fact 23 rfl),
    fd_InvalidNumber := fd_InvalidNumber, D_InvalidNumber := D_InvalidNumber, x_InvalidNumber := ⟨oexB_ok q_InvalidNumber, (He.meth_ok (c.fact 26 (f := .meth "InvalidNumber" "__init__") rfl)).at_, isFn_ty (He.meth_ok (c.fact 26 (f := .meth "InvalidNumber" "__init__") rfl)).fn, (fun f hf => by
      simp only [List.mem_cons, List.not_mem_nil, or_false] at hf
      subst hf
      · exact He.noat_ok (c.fact 27 (f := .noat "InvalidNumber" "number") rfl)
    ), He.glo_ok X G (c.fact 24 rfl)⟩,
    fd_Undefined := fd_Undefined, D_Undefined := D_Undefined, x_Undefined := ⟨oexB_ok q_Undefined, (He.meth_ok (c.fact 28 (f := .meth "Undefined" "__init__") rfl)).at_, isFn_ty (He.meth_ok (c.fact 28 (f := .meth "Undefined" "__init__") rfl)).fn, (fun f hf => by
      simp only [List.mem_cons, List.not_mem_nil, or_false] at hf
      subst hf
      · exact He.noat_ok (c.fact 29 (f := .noat "Undefined" "what") rfl)
    ), He.glo_ok X G (c.fact 25 rfl)⟩,
    g_DealError := He.glo_ok X G (c.fact 30 rfl),
    g_InvalidNumber := He.glo_ok X G (c.fact 24 rfl),
    c_MOST_STEPS := He.int_ok X G (c.fact 32 rfl),
    g_Undefined := He.glo_ok X G (c.fact 25 rfl),
    f_abs := He.free_ok X G (c.fact 34 rfl),
    f_bool := He.free_ok X G (c.fact 35 rfl),
    f_int := He.free_ok X G (c.fact 36 rfl),
    f_isinstance := He.free_ok X G (c.fact 37 rfl),
    f_len := He.free_ok X G (c.fact 38 rfl),
    f_max := He.free_ok X G (c.fact 39 rfl),
    f_min := He.free_ok X G (c.fact 40 rfl),
    f_range := He.free_ok X G (c.fact 41 rfl),
    f_str := He.free_ok X G (c.fact 42 rfl),
    f_tuple := He.free_ok X G (c.fact 43 rfl),
    b_comb := bfn_ok X G qb_comb,
    g_BACK := He.glo_ok X G (c.fact 44 rfl), t_BACK := tupWB_ok qt_BACK,
    g_KEEP := He.glo_ok X G (c.fact 45 rfl), t_KEEP := tupWB_ok qt_KEEP,
    g_ON := He.glo_ok X G (c.fact 46 rfl), t_ON := tupWB_ok qt_ON,
    ex := exB_ok q }⟩
end K96

set_option Elab.async false
set_option linter.all false
set_option maxRecDepth 100000
set_option maxHeartbeats 0
set_option autoImplicit false

namespace K96
open PySem PySem.Spec L2 FL
def loose0 : List Str := ["DealError", "InvalidNumber", "Undefined", "is_integer", "is_from_to", "check_number", "MOST_STEPS", "BACK", "KEEP", "ON", "check_chain", "on_needed", "best_first", "deeds_from", "least_on", "walk", "_law_is_number", "_law_box", "_law_draw", "_law_choose", "_law_least", "_law_walked", "_law_free", "_law_searched", "_law_least_tried", "_law_walk_tried", "_law_is_least", "_law_odd", "_law_wrong", "_law_refused"]
def loose : List Str := loose0
abbrev RR : PySem.W.OpenRow := PySem.W.OpenLaw.row PySem.Challenge.rw_everydealt_k96_whole_least_walks
abbrev hk : PySem.W.Hook := hookL 5 fas dfs exq
def ob (s : PySem.W.SharedT) : AlL := obsLG 5 fas dfs exq (HandSHeadRun.getT s)
theorem ob_eq (s : PySem.W.SharedT) : ob s = hk.obs s.abs := obsLG_eq (HandSHeadRun.getT_eq s)
theorem run (w : World) : HandSHeadRun.RunEqI RR (PySem.W.view RR.prog [0, 35]) hk ob 20000 loose w := by
  unfold HandSHeadRun.RunEqI
  kernel_rfl
end K96

set_option Elab.async false
set_option linter.all false
set_option maxRecDepth 100000
set_option maxHeartbeats 0
set_option autoImplicit false

open PySem PySem.W PySem.Calls PyProof.Rows
theorem PySem.Challenge.cw_everydealt_k96_whole_least_walks_holds : PySem.Challenge.rw_everydealt_k96_whole_least_walks.Holds := by
  w_on; o_law
  refine HandSHeadRun.head_imp (r := OpenLaw.row PySem.Challenge.rw_everydealt_k96_whole_least_walks) (q := view (OpenLaw.row PySem.Challenge.rw_everydealt_k96_whole_least_walks).prog [0, 35]) (H := K96.hk) (ob := K96.ob) (M := 20000) (loose := K96.loose) (d := HandSHeadRun.topDef (OpenLaw.row PySem.Challenge.rw_everydealt_k96_whole_least_walks).prog 35) (kwd := []) K96.ob_eq
    K96.run (by kernel_rfl) (by kernel_rfl) (by kernel_rfl) (by rfl) (by first | assumption | decide +kernel) (by decide +kernel) ⟨rfl, rfl, rfl, rfl, rfl, by decide +kernel⟩ ?hw ?hc
  case hw => w_witness2
  case hc =>
    refine FL.walk_ofEB (l := PySem.Challenge.rw_everydealt_k96_whole_least_walks) (n := 63) (k := 48) (x := "script") (CX := fun w => L2.CX (PySem.Challenge.rw_everydealt_k96_whole_least_walks).prog w) rfl (by decide) (by kernel_rfl) ⟨rfl, by decide, by decide⟩ ?F (fun w H s e s' h => FL.cx_false _ w H s e s' h)
    intro w mg fa h Y G hmg0
    obtain ⟨K, KX, c⟩ := Y
    have hmg : mg ("law" : PySem.Str) = some (.ref fa) := by
      have e : (HandSHeadRun.topDef (OpenLaw.row PySem.Challenge.rw_everydealt_k96_whole_least_walks).prog 35).name = ("law" : PySem.Str) := by kernel_rfl
      rw [← e]
      exact hmg0
    obtain ⟨E⟩ := K96.ev_of KX G c
    have ef := hmg.symm.trans E.g_law
    cases ef
    exact ⟨K, E.fd_law, FL.spF K 1 K96.F_law, KX, (fun s v => L2.FunD.bindsA (ps := ["script"]) E.D_law (fun _ _ _ _ _ _ us hl => match us, hl with | [_], _ => rfl) s [v] rfl), fun H a ns hl hb hO hS => FL.law_sp (K96.law_true ns hl hb) hO hS, fun base _ _ => K96.ok_law E⟩

