import PyProof.Rows.All
import Wide.All
import OpenK.AllK
import Wide.FinOn
import HandS.ForMost
import HandS.Exc
import HandS.TryOnly
import HandS.TryMany
import HandS.ExcInit
import HandS.ExcField
import HandS.ExcIs
import HandS.CallSlots
import HandS.IsInst
import HandS.Walk
import HandS.HeadHook2
import HandS.TupAny
import HandS.TupMul
import HandS.WideBits
import HandS.Wide
import KE.KExcIs
import HandS.Defaults
import HandS.Zip
import HandS.Rev
import HandS.RevRange
import HandS.Conv
import KE.GoesMore
import HandS.HeadEnd
import HandS.EndBits
import HandS.Words
import HandS.More
import HandS.TupLe
import HandS.Dict
import HandS.Gcd
import KE.KMathGC
import HandS.MakeKw
import HandS.SortInts
import HandS.SortRule
import KE.KSortTupG
import KE.SortLaws
import HandS.NoneIn
import HandS.RaiseMore
import HandS.Text
import KE.KStateDown
import Lean
import HandS.Head0
import HandS.Head1
import HandS.Head2
import PySem.Challenge.RW_everydealt_k06_loads_and_their_errors
set_option Elab.async false
set_option linter.all false
set_option maxRecDepth 100000
set_option maxHeartbeats 4000000
namespace FL
open PySem PySem.Spec L2
set_option autoImplicit false

/-! ### values, objects, results -/
inductive U where
  | non | bl (b : Bool) | int (i : Int) | str (x : Str) | tup (xs : List U) | rl (xs : List U) | wt (xs : List U) | ref (l : Nat)
  deriving Inhabited
inductive OU where
  | lst (xs : List U) | dct (kvs : List (U × U)) | dtp (kvs : List (U × U)) | ins (c : Str) (fs : List (Str × U))
  deriving Inhabited
abbrev Gp := List OU
abbrev Ev := List (Option U)
inductive R (α : Type) where
  | ok (a : α) (G : Gp) | exc (c : Str) (fs : List (Str × U)) (G : Gp) | bad
inductive SR where
  | nx (e : Ev) (G : Gp) | ret (u : U) (G : Gp) | brk (e : Ev) (G : Gp) | ct (e : Ev) (G : Gp) | exc (c : Str) (fs : List (Str × U)) (e : Ev) (G : Gp) | bad
def R.bind {α β : Type} (r : R α) (k : α → Gp → R β) : R β := match r with
  | .ok a G => k a G
  | .exc c fs G => .exc c fs G
  | .bad => .bad
def R.andThen {α : Type} (r : R α) (e : Ev) (k : α → Gp → SR) : SR := match r with
  | .ok a G => k a G
  | .exc c fs G => .exc c fs e G
  | .bad => .bad
theorem R.bind_ok {α β : Type} (a : α) (G : Gp) (k : α → Gp → R β) : (R.ok a G).bind k = k a G := rfl
theorem R.andThen_ok {α : Type} (a : α) (G : Gp) (e : Ev) (k : α → Gp → SR) : (R.ok a G).andThen e k = k a G := rfl

/-! ### the relation -/
/-- the written part, and what else is held of the heap (Z): it stays where lists, instances change and where things are new -/
structure Keeps (K : PySem.W.Frag) (H H' : Hp) : Prop where
  tup : ∀ a vs, H a = some (.tup vs) → H' a = some (.tup vs)
  frz : ∀ a o u, H a = some (.frz o u) → H' a = some (.frz o u)
  xd : ∀ a fs, H a = some (.xd fs) → H' a = some (.xd fs)
structure ZZ (K : PySem.W.Frag) where
  er : Option (Nat × Addr)
  P : List Addr → Hp → Prop
  st : ∀ ρ ρ' H H', ρ <+: ρ' → Keeps K H H' → P ρ H → P ρ' H'
structure KZ where
  K : PySem.W.Frag
  Z : ZZ K
def zT {K : PySem.W.Frag} : ZZ K := ⟨none, fun _ _ => True, fun _ _ _ _ _ _ _ => trivial⟩
abbrev kz (X : Cx) (Z : ZZ X.K) : KZ := ⟨X.K, Z⟩
def RLs (K : KZ) (H : Hp) (a : Addr) (xs : List V) : Prop :=
  (∃ o, H a = some (.frz o (.lst xs))) ∨
    ∃ (o : Obj) (its : Array Value) (n : Nat), K.K.lookup a = some o ∧ o.cls = .type "list" ∧ o.dict = none ∧ o.data = .seq its n ∧ its.size ≤ sizeLine ∧ Vals xs its.toList
theorem RLs.sq {K : KZ} {H : Hp} {a : Addr} {xs : List V} (h : RLs K H a xs) : SqL K.K H a xs := by
  rcases h with ⟨o, h⟩ | h
  · exact .inl (.inr ⟨o, h⟩)
  · exact .inr h
/-- a tuple: tracked -/
def TupAt (K : KZ) (H : Hp) (a : Addr) (xs : List V) : Prop := H a = some (.tup xs)
theorem TupAt.sq {K : KZ} {H : Hp} {a : Addr} {xs : List V} (h : TupAt K H a xs) : SqT K.K H a xs := .inl (.inl h)
/-- a tuple of the written part -/
def TupWs (K : KZ) (a : Addr) (xs : List V) : Prop :=
  ∃ (o : Obj) (its : Array Value) (n : Nat), K.K.lookup a = some o ∧ o.cls = .type "tuple" ∧ o.data = .seq its n ∧ its.size ≤ sizeLine ∧ Vals xs its.toList
theorem TupWs.sq {K : KZ} {H : Hp} {a : Addr} {xs : List V} (h : TupWs K a xs) : SqT K.K H a xs := .inr h
mutual
inductive RU (K : KZ) (ρ : List Addr) (H : Hp) : U → V → Prop
  | non : RU K ρ H .non .non
  | bl (b : Bool) : RU K ρ H (.bl b) (.bl b)
  | int (i : Int) : RU K ρ H (.int i) (.int i)
  | str (x : Str) : RU K ρ H (.str x) (.str x)
  | ref {l : Nat} {a : Addr} (h : ρ[l]? = some a) : RU K ρ H (.ref l) (.ref a)
  | tup {xs : List U} {vs : List V} {a : Addr} (h : TupAt K H a vs) (r : RUs K ρ H xs vs) : RU K ρ H (.tup xs) (.ref a)
  | rl {xs : List U} {vs : List V} {a : Addr} (h : RLs K H a vs) (r : RUs K ρ H xs vs) : RU K ρ H (.rl xs) (.ref a)
  | wt {xs : List U} {vs : List V} {a : Addr} (h : TupWs K a vs) (r : RUs K ρ H xs vs) : RU K ρ H (.wt xs) (.ref a)
inductive RUs (K : KZ) (ρ : List Addr) (H : Hp) : List U → List V → Prop
  | nil : RUs K ρ H [] []
  | cons {x : U} {v : V} {xs : List U} {vs : List V} (h : RU K ρ H x v) (t : RUs K ρ H xs vs) : RUs K ρ H (x :: xs) (v :: vs)
end
abbrev Stb (K : KZ) (H H' : Hp) : Prop := Keeps K.K H H'
theorem Stb.refl {K : KZ} {H : Hp} : Stb K H H := ⟨fun _ _ h => h, fun _ _ _ h => h, fun _ _ h => h⟩
theorem Stb.trans {K : KZ} {H H1 H2 : Hp} (a : Stb K H H1) (b : Stb K H1 H2) : Stb K H H2 := ⟨fun x vs h => b.tup x vs (a.tup x vs h), fun x o u h => b.frz x o u (a.frz x o u h), fun x fs h => b.xd x fs (a.xd x fs h)⟩
theorem Stb.tupAt {K : KZ} {H H' : Hp} {a : Addr} {xs : List V} (s : Stb K H H') (h : TupAt K H a xs) : TupAt K H' a xs := s.tup _ _ h
theorem Stb.rls {K : KZ} {H H' : Hp} {a : Addr} {xs : List V} (s : Stb K H H') (h : RLs K H a xs) : RLs K H' a xs := by
  rcases h with ⟨o, h⟩ | h
  · exact .inl ⟨o, s.frz _ _ _ h⟩
  · exact .inr h
theorem pre_get {ρ ρ' : List Addr} (p : ρ <+: ρ') {l : Nat} {a : Addr} (h : ρ[l]? = some a) : ρ'[l]? = some a := by
  obtain ⟨t, rfl⟩ := p
  rw [List.getElem?_append_left (by exact (List.getElem?_eq_some_iff.mp h).1)]
  exact h
section
variable {K : KZ} {ρ ρ' : List Addr} {H H' : Hp}
mutual
theorem RU.mono (p : ρ <+: ρ') (s : Stb K H H') : ∀ {u : U} {v : V}, RU K ρ H u v → RU K ρ' H' u v
  | _, _, .non => .non
  | _, _, .bl b => .bl b
  | _, _, .int i => .int i
  | _, _, .str x => .str x
  | _, _, .ref h => .ref (pre_get p h)
  | _, _, .tup h r => .tup (s.tupAt h) (RUs.mono p s r)
  | _, _, .rl h r => .rl (s.rls h) (RUs.mono p s r)
  | _, _, .wt h r => .wt h (RUs.mono p s r)
theorem RUs.mono (p : ρ <+: ρ') (s : Stb K H H') : ∀ {us : List U} {vs : List V}, RUs K ρ H us vs → RUs K ρ' H' us vs
  | _, _, .nil => .nil
  | _, _, .cons h t => .cons (RU.mono p s h) (RUs.mono p s t)
end
theorem RUs.len : ∀ {us : List U} {vs : List V}, RUs K ρ H us vs → us.length = vs.length
  | _, _, .nil => rfl
  | _, _, .cons _ t => by rw [List.length_cons, List.length_cons, t.len]
theorem RUs.get : ∀ {us : List U} {vs : List V}, RUs K ρ H us vs → ∀ {i : Nat} {v : V}, vs[i]? = some v → ∃ u, us[i]? = some u ∧ RU K ρ H u v
  | _, _, .nil, _, _, e => by simp at e
  | _, _, .cons h t, 0, v, e => by simp at e; subst e; exact ⟨_, rfl, h⟩
  | _, _, .cons h t, i + 1, v, e => by
    obtain ⟨u, e1, r⟩ := t.get (i := i) (v := v) (by simpa using e)
    exact ⟨u, by simpa using e1, r⟩
theorem RUs.getU : ∀ {us : List U} {vs : List V}, RUs K ρ H us vs → ∀ {i : Nat} {u : U}, us[i]? = some u → ∃ v, vs[i]? = some v ∧ RU K ρ H u v
  | _, _, .nil, _, _, e => by simp at e
  | _, _, .cons h t, 0, v, e => by simp at e; subst e; exact ⟨_, rfl, h⟩
  | _, _, .cons h t, i + 1, v, e => by
    obtain ⟨u, e1, r⟩ := t.getU (i := i) (u := v) (by simpa using e)
    exact ⟨u, by simpa using e1, r⟩
theorem RUs.append : ∀ {us : List U} {vs : List V}, RUs K ρ H us vs → ∀ {us' : List U} {vs' : List V}, RUs K ρ H us' vs' → RUs K ρ H (us ++ us') (vs ++ vs')
  | _, _, .nil, _, _, r => r
  | _, _, .cons h t, _, _, r => .cons h (t.append r)
theorem RUs.set : ∀ {us : List U} {vs : List V}, RUs K ρ H us vs → ∀ {u : U} {v : V}, RU K ρ H u v → ∀ i : Nat, RUs K ρ H (us.set i u) (vs.set i v)
  | _, _, .nil, _, _, _, _ => .nil
  | _, _, .cons _ t, _, _, r, 0 => .cons r t
  | _, _, .cons h t, _, _, r, i + 1 => .cons h (t.set r i)
theorem RUs.take : ∀ {us : List U} {vs : List V}, RUs K ρ H us vs → ∀ n : Nat, RUs K ρ H (us.take n) (vs.take n)
  | _, _, .nil, n => by simpa using RUs.nil
  | _, _, .cons _ _, 0 => .nil
  | _, _, .cons h t, n + 1 => .cons h (t.take n)
theorem RUs.drop : ∀ {us : List U} {vs : List V}, RUs K ρ H us vs → ∀ n : Nat, RUs K ρ H (us.drop n) (vs.drop n)
  | _, _, .nil, n => by simpa using RUs.nil
  | _, _, .cons h t, 0 => .cons h t
  | _, _, .cons _ t, n + 1 => t.drop n
theorem RUs.ints : ∀ (ns : List Int), RUs K ρ H (ns.map U.int) (ns.map V.int)
  | [] => .nil
  | n :: r => .cons (.int n) (RUs.ints r)
end
/-- fields: the same names, related values -/
def RFs (K : KZ) (ρ : List Addr) (H : Hp) (fs : List (Str × U)) (vfs : List (Str × V)) : Prop := fs.map (·.1) = vfs.map (·.1) ∧ RUs K ρ H (fs.map (·.2)) (vfs.map (·.2))
theorem RFs.mono {K : KZ} {ρ ρ' : List Addr} {H H' : Hp} (p : ρ <+: ρ') (s : Stb K H H') {fs : List (Str × U)} {vfs : List (Str × V)} (r : RFs K ρ H fs vfs) : RFs K ρ' H' fs vfs := ⟨r.1, r.2.mono p s⟩
/-- keys: ints, texts -/
def uk : U → Option Key
  | .int i => some (.inl i)
  | .str x => some (.inr x)
  | _ => none
def uks : List U → Option (List Key)
  | [] => some []
  | x :: xs => match uk x, uks xs with
    | some k, some ks => some (k :: ks)
    | _, _ => none
def utk : U → Option (List Key)
  | .tup xs => uks xs
  | _ => none
inductive RKs {κ : Type} (f : U → Option κ) (K : KZ) (ρ : List Addr) (H : Hp) : List (U × U) → List (κ × V) → Prop
  | nil : RKs f K ρ H [] []
  | cons {x u : U} {k : κ} {v : V} {kvs : List (U × U)} {vk : List (κ × V)} (hk : f x = some k) (r : RU K ρ H u v) (t : RKs f K ρ H kvs vk) : RKs f K ρ H ((x, u) :: kvs) ((k, v) :: vk)
theorem RKs.mono {κ : Type} {f : U → Option κ} {K : KZ} {ρ ρ' : List Addr} {H H' : Hp} (p : ρ <+: ρ') (s : Stb K H H') : ∀ {kvs : List (U × U)} {vk : List (κ × V)}, RKs f K ρ H kvs vk → RKs f K ρ' H' kvs vk
  | _, _, .nil => .nil
  | _, _, .cons hk r t => .cons hk (r.mono p s) (RKs.mono p s t)
def RO (K : KZ) (ρ : List Addr) (H : Hp) : OU → HO → Prop
  | .lst xs, .lst vs => RUs K ρ H xs vs
  | .dct kvs, .dK vk => RKs uk K ρ H kvs vk
  | .dtp kvs, .dT vk => RKs utk K ρ H kvs vk
  | .ins c fs, .ins C _ vfs => C = He.ga K.K c ∧ RFs K ρ H fs vfs
  | _, _ => False
theorem RO.mono {K : KZ} {ρ ρ' : List Addr} {H H' : Hp} (p : ρ <+: ρ') (s : Stb K H H') {o : OU} {ho : HO} (r : RO K ρ H o ho) : RO K ρ' H' o ho := by
  cases o <;> cases ho <;> first | exact r.elim | exact RUs.mono p s r | exact RKs.mono p s r | exact ⟨r.1, r.2.mono p s⟩
structure Sim (K : KZ) (ρ : List Addr) (G : Gp) (H : Hp) : Prop where
  len : ρ.length = G.length
  nd : ρ.Nodup
  ob : ∀ (l : Nat) (o : OU) (a : Addr), G[l]? = some o → ρ[l]? = some a → ∃ ho, H a = some ho ∧ RO K ρ H o ho
  z : K.Z.P ρ H
/-- a slot list -/
def REq0 (K : KZ) (ρ : List Addr) (H : Hp) : Ev → St → Prop
  | [], [] => True
  | u :: us, v :: vs => (match u, v with
    | none, _ => True
    | some x, some y => RU K ρ H x y
    | some _, none => False) ∧ REq0 K ρ H us vs
  | _, _ => False
section
variable {K : KZ} {ρ ρ' : List Addr} {H H' : Hp} {G : Gp}
theorem REq0.mono (p : ρ <+: ρ') (s : Stb K H H') : ∀ {env : Ev} {σ : St}, REq0 K ρ H env σ → REq0 K ρ' H' env σ
  | [], [], _ => trivial
  | none :: us, v :: vs, h => ⟨h.1, REq0.mono p s h.2⟩
  | some x :: us, some y :: vs, h => ⟨RU.mono p s h.1, REq0.mono p s h.2⟩
  | some x :: us, none :: vs, h => h.1.elim
theorem REq0.get : ∀ {env : Ev} {σ : St}, REq0 K ρ H env σ → ∀ {i : Nat} {u : U}, env[i]? = some (some u) → ∃ v, σ[i]? = some (some v) ∧ RU K ρ H u v
  | [], [], _, _, _, e => by simp at e
  | none :: us, v :: vs, h, 0, u, e => by simp at e
  | some x :: us, some y :: vs, h, 0, u, e => by simp at e; subst e; exact ⟨y, rfl, h.1⟩
  | some x :: us, none :: vs, h, _, _, _ => h.1.elim
  | none :: us, v :: vs, h, i + 1, u, e => by
    obtain ⟨w, e1, r⟩ := REq0.get h.2 (i := i) (u := u) (by simpa using e)
    exact ⟨w, by simpa using e1, r⟩
  | some x :: us, some y :: vs, h, i + 1, u, e => by
    obtain ⟨w, e1, r⟩ := REq0.get h.2 (i := i) (u := u) (by simpa using e)
    exact ⟨w, by simpa using e1, r⟩
theorem REq0.set {x : U} {y : V} (r : RU K ρ H x y) : ∀ {env : Ev} {σ : St}, REq0 K ρ H env σ → ∀ i : Nat, REq0 K ρ H (env.set i (some x)) (σ.set i (some y))
  | [], [], _, _ => trivial
  | none :: us, v :: vs, h, 0 => ⟨r, h.2⟩
  | some _ :: us, some _ :: vs, h, 0 => ⟨r, h.2⟩
  | some x :: us, none :: vs, h, _ => h.1.elim
  | none :: us, v :: vs, h, i + 1 => ⟨h.1, REq0.set r h.2 i⟩
  | some _ :: us, some _ :: vs, h, i + 1 => ⟨h.1, REq0.set r h.2 i⟩
theorem REq0.unset : ∀ {env : Ev} {σ : St}, REq0 K ρ H env σ → ∀ i : Nat, REq0 K ρ H (env.set i none) (σ.set i none)
  | [], [], _, _ => trivial
  | none :: us, v :: vs, h, 0 => ⟨trivial, h.2⟩
  | some _ :: us, some _ :: vs, h, 0 => ⟨trivial, h.2⟩
  | some x :: us, none :: vs, h, _ => h.1.elim
  | none :: us, v :: vs, h, i + 1 => ⟨h.1, REq0.unset h.2 i⟩
  | some _ :: us, some _ :: vs, h, i + 1 => ⟨h.1, REq0.unset h.2 i⟩
def startE (n : Nat) (us : List U) : Ev := us.map some ++ List.replicate (n - us.length) none
theorem REq0.nones : ∀ n : Nat, REq0 K ρ H (List.replicate n none) (List.replicate n none)
  | 0 => trivial
  | n + 1 => ⟨trivial, REq0.nones n⟩
theorem REq0.start_app : ∀ {us : List U} {vs : List V}, RUs K ρ H us vs → ∀ n : Nat, REq0 K ρ H (us.map some ++ List.replicate n none) (vs.map some ++ List.replicate n none)
  | _, _, .nil, n => REq0.nones n
  | _, _, .cons h t, n => ⟨h, REq0.start_app t n⟩
theorem REq0.start {us : List U} {vs : List V} (r : RUs K ρ H us vs) (N : List Str) : REq0 K ρ H (startE N.length us) (L2.start N vs) := by
  unfold startE L2.start
  rw [r.len]
  exact REq0.start_app r _

end
/-- the slots; where an error is handled (er), its name's slot, as long as nothing else is stored there, holds it -/
def REq (K : KZ) (ρ : List Addr) (H : Hp) (env : Ev) (σ : St) : Prop := REq0 K ρ H env σ ∧ ∀ i a, K.Z.er = some (i, a) → env[i]? = some none → σ[i]? = some (some (.ref a))
section
variable {K : KZ} {ρ ρ' : List Addr} {H H' : Hp} {env : Ev} {σ : St}
theorem REq0.len : ∀ {env : Ev} {σ : St}, REq0 K ρ H env σ → env.length = σ.length
  | [], [], _ => rfl
  | none :: us, v :: vs, h => by rw [List.length_cons, List.length_cons, REq0.len h.2]
  | some _ :: us, some _ :: vs, h => by rw [List.length_cons, List.length_cons, REq0.len h.2]
  | some x :: us, none :: vs, h => h.1.elim
theorem REq.mono (p : ρ <+: ρ') (s : Stb K H H') (e : REq K ρ H env σ) : REq K ρ' H' env σ := ⟨e.1.mono p s, e.2⟩
theorem REq.get (e : REq K ρ H env σ) {i : Nat} {u : U} (h : env[i]? = some (some u)) : ∃ v, σ[i]? = some (some v) ∧ RU K ρ H u v := e.1.get h
theorem REq.set {x : U} {y : V} (r : RU K ρ H x y) (e : REq K ρ H env σ) (i : Nat) : REq K ρ H (env.set i (some x)) (σ.set i (some y)) := by
  refine ⟨e.1.set r i, fun j a h1 h2 => ?_⟩
  by_cases hj : j = i
  · subst hj
    by_cases hl : j < env.length
    · rw [List.getElem?_set_self hl] at h2; cases h2
    · rw [List.set_eq_of_length_le (by omega)] at h2
      rw [List.set_eq_of_length_le (by rw [← e.1.len]; omega)]
      exact e.2 j a h1 h2
  · rw [List.getElem?_set_ne (Ne.symm hj)] at h2 ⊢
    exact e.2 j a h1 h2
theorem REq.unset (hZ : K.Z.er = none) (e : REq K ρ H env σ) (i : Nat) : REq K ρ H (env.set i none) (σ.set i none) := ⟨e.1.unset i, fun j a h => by rw [hZ] at h; cases h⟩
theorem REq.start (hZ : K.Z.er = none) {us : List U} {vs : List V} (r : RUs K ρ H us vs) (N : List Str) : REq K ρ H (startE N.length us) (L2.start N vs) := ⟨REq0.start r N, fun j a h => by rw [hZ] at h; cases h⟩
end

section
variable {K : KZ} {ρ ρ' : List Addr} {H H' : Hp} {G : Gp}
/-! ### heaps change -/
theorem stb_new {p : Addr} {o : HO} (hp : H p = none) : Stb K H (upd H p o) := by
  refine ⟨fun a vs h => ?_, fun a q u h => ?_, fun a fs h => ?_⟩
  · rw [upd_ne (ne_of_none h hp)]; exact h
  · rw [upd_ne (ne_of_none h hp)]; exact h
  · rw [upd_ne (ne_of_none h hp)]; exact h
theorem stb_write {p : Addr} {o o' : HO} (hp : H p = some o) (n1 : ∀ xs, o ≠ .tup xs) (n2 : ∀ q u, o ≠ .frz q u) (n3 : ∀ fs, o ≠ .xd fs) : Stb K H (upd H p o') := by
  refine ⟨fun a vs h => ?_, fun a q u h => ?_, fun a fs h => ?_⟩
  · rw [upd_ne (ne_of h hp (fun z => n1 _ z.symm))]; exact h
  · rw [upd_ne (ne_of h hp (fun z => n2 _ _ z.symm))]; exact h
  · rw [upd_ne (ne_of h hp (fun z => n3 _ z.symm))]; exact h
theorem pre_refl {ρ : List Addr} : ρ <+: ρ := List.prefix_refl ρ
theorem Sim.addr (S : Sim K ρ G H) {l : Nat} {o : OU} (h : G[l]? = some o) : ∃ a, ρ[l]? = some a := by
  have h1 : l < G.length := (List.getElem?_eq_some_iff.mp h).1
  exact ⟨ρ[l]'(by rw [S.len]; exact h1), List.getElem?_eq_getElem _⟩
theorem Sim.back (S : Sim K ρ G H) {l : Nat} {a : Addr} (h : ρ[l]? = some a) : ∃ o ho, G[l]? = some o ∧ H a = some ho ∧ RO K ρ H o ho := by
  have h1 : l < ρ.length := (List.getElem?_eq_some_iff.mp h).1
  have h2 : G[l]? = some (G[l]'(by rw [← S.len]; exact h1)) := List.getElem?_eq_getElem _
  obtain ⟨ho, e, r⟩ := S.ob l _ a h2 h
  exact ⟨_, ho, h2, e, r⟩
/-- a heap that keeps all that is tracked -/
theorem Sim.keep (S : Sim K ρ G H) (k : ∀ a o, H a = some o → H' a = some o) (s : Stb K H H') : Sim K ρ G H' :=
  ⟨S.len, S.nd, fun l o a h1 h2 => by
    obtain ⟨ho, e, r⟩ := S.ob l o a h1 h2
    exact ⟨ho, k _ _ e, r.mono pre_refl s⟩, K.Z.st _ _ _ _ pre_refl s S.z⟩
theorem Sim.tup (S : Sim K ρ G H) {p : Addr} {o : HO} (hp : H p = none) : Sim K ρ G (upd H p o) :=
  S.keep (fun a q e => by rw [upd_ne (ne_of_none e hp)]; exact e) (stb_new hp)
theorem Sim.new (S : Sim K ρ G H) {p : Addr} {o : OU} {ho : HO} (hp : H p = none) (r : RO K (ρ ++ [p]) (upd H p ho) o ho) : Sim K (ρ ++ [p]) (G ++ [o]) (upd H p ho) := by
  have hn : p ∉ ρ := fun hm => by
    obtain ⟨l, e⟩ := List.getElem?_of_mem hm
    obtain ⟨o', ho', _, e2, _⟩ := S.back e
    rw [hp] at e2; cases e2
  refine ⟨by simp [S.len], ?_, fun l q a h1 h2 => ?_, K.Z.st _ _ _ _ ⟨[p], rfl⟩ (stb_new hp) S.z⟩
  · rw [List.nodup_append]
    refine ⟨S.nd, by simp, ?_⟩
    intro a ha b hb
    simp at hb
    subst hb
    rintro rfl
    exact hn ha
  · by_cases hl : l < G.length
    · rw [List.getElem?_append_left hl] at h1
      rw [List.getElem?_append_left (by rw [S.len]; exact hl)] at h2
      obtain ⟨w, e, rw'⟩ := S.ob l q a h1 h2
      exact ⟨w, by rw [upd_ne (ne_of_none e hp)]; exact e, rw'.mono ⟨[p], rfl⟩ (stb_new hp)⟩
    · have e : l = G.length := by
        have := (List.getElem?_eq_some_iff.mp h1).1
        simp at this; omega
      subst e
      rw [List.getElem?_append_right (Nat.le_refl _)] at h1
      rw [List.getElem?_append_right (by rw [S.len]; exact Nat.le_refl _)] at h2
      simp [S.len] at h1 h2
      subst h1 h2
      exact ⟨ho, upd_same, r⟩
theorem Sim.write (S : Sim K ρ G H) {l : Nat} {a : Addr} {o : OU} {ho old : HO} (ha : ρ[l]? = some a) (e0 : H a = some old) (n1 : ∀ xs, old ≠ .tup xs) (n2 : ∀ q u, old ≠ .frz q u) (n3 : ∀ fs, old ≠ .xd fs) (r : RO K ρ (upd H a ho) o ho) : Sim K ρ (G.set l o) (upd H a ho) := by
  refine ⟨by simp [S.len], S.nd, fun m q b h1 h2 => ?_, K.Z.st _ _ _ _ pre_refl (stb_write e0 n1 n2 n3) S.z⟩
  by_cases hm : m = l
  · subst hm
    rw [ha] at h2; cases h2
    have hl : m < G.length := by
      have := (List.getElem?_eq_some_iff.mp ha).1
      rw [S.len] at this; exact this
    rw [List.getElem?_set_self hl] at h1
    cases h1
    exact ⟨ho, upd_same, r⟩
  · rw [List.getElem?_set_ne (Ne.symm hm)] at h1
    obtain ⟨w, e, rw'⟩ := S.ob m q b h1 h2
    have hne : b ≠ a := by
      rintro rfl
      obtain ⟨h3, e3⟩ := List.getElem?_eq_some_iff.mp h2
      obtain ⟨h4, e4⟩ := List.getElem?_eq_some_iff.mp ha
      exact hm ((List.getElem_inj S.nd).mp (e3.trans e4.symm))
    exact ⟨w, by rw [upd_ne hne]; exact e, rw'.mono pre_refl (stb_write e0 n1 n2 n3)⟩
end

/-! ### ends -/
abbrev Rel (α β : Type) := List Addr → Hp → α → β → Prop
def Post {α β : Type} (K : KZ) (rel : Rel α β) (ρ : List Addr) (H : Hp) (r : R α) (Q : β → Hp → Prop) (E : XK) : Prop := match r with
  | .ok a G' => ∀ b ρ' H', ρ <+: ρ' → Stb K H H' → Sim K ρ' G' H' → rel ρ' H' a b → Q b H'
  | .exc c fs G' => ∀ d vfs ρ' H', ρ <+: ρ' → Stb K H H' → Sim K ρ' G' H' → H' d = some (.xd vfs) → RFs K ρ' H' fs vfs → E (.ref (He.ga K.K c)) (some d) H'
  | .bad => False
theorem Post.lift {α β : Type} {K : KZ} {rel : Rel α β} {ρ ρ1 : List Addr} {H H1 : Hp} {r : R α} {Q : β → Hp → Prop} {E : XK} (h : Post K rel ρ H r Q E) (p : ρ <+: ρ1) (s : Stb K H H1) : Post K rel ρ1 H1 r Q E := by
  cases r with
  | ok a G => exact fun b ρ' H' p' s' S q => h b ρ' H' (p.trans p') (s.trans s') S q
  | exc c fs G => exact fun d vfs ρ' H' p' s' S e q => h d vfs ρ' H' (p.trans p') (s.trans s') S e q
  | bad => exact h
theorem Post.end_ {α β : Type} {K : KZ} {rel : Rel α β} {ρ : List Addr} {H : Hp} {a : α} {G : Gp} {Q : β → Hp → Prop} {E : XK} (h : Post K rel ρ H (.ok a G) Q E) {b : β} (S : Sim K ρ G H) (r : rel ρ H a b) : Q b H := h b ρ H pre_refl Stb.refl S r
/-- a reading of its own -/
def tG {α β : Type} (K : KZ) (rel : Rel α β) (W : WX) (f : Ev → Gp → R α) : St → Hp → (β → Hp → Prop) → Prop := fun σ H Q => ∃ ρ G env, Sim K ρ G H ∧ REq K ρ H env σ ∧ Post K rel ρ H (f env G) Q fun c d H' => W c d σ H'
/-- one step, then the rest -/
theorem step {α β γ δ : Type} {K : KZ} {rel : Rel α β} {rel' : Rel γ δ} {W : WX} {f : Ev → Gp → R α} {k : α → Gp → R γ} {σ : St} {H : Hp} {ρ : List Addr} {G : Gp} {env : Ev} {Q : δ → Hp → Prop} (S : Sim K ρ G H) (e : REq K ρ H env σ)
    (h : Post K rel' ρ H ((f env G).bind k) Q fun c d H' => W c d σ H') :
    tG K rel W f σ H fun b H1 => ∃ ρ1 G1 a, ρ <+: ρ1 ∧ Stb K H H1 ∧ Sim K ρ1 G1 H1 ∧ REq K ρ1 H1 env σ ∧ rel ρ1 H1 a b ∧ Post K rel' ρ1 H1 (k a G1) Q fun c d H' => W c d σ H' := by
  refine ⟨ρ, G, env, S, e, ?_⟩
  cases q : f env G with
  | ok a G1 =>
    rw [q] at h
    exact fun b ρ1 H1 p s S1 r => ⟨ρ1, G1, a, p, s, S1, e.mono p s, r, Post.lift h p s⟩
  | exc c fs G1 => rw [q] at h; exact h
  | bad => rw [q] at h; exact h
def tF (K : KZ) (W : WX) (f : Ev → Gp → R U) : TE := tG K (RU K) W f
def ttF (K : KZ) (W : WX) (f : Ev → Gp → R Bool) : TT := tG K (fun _ _ a b => a = b) W f
def taF (K : KZ) (W : WX) (f : Ev → Gp → R (List U)) : TA := tG K (RUs K) W f
abbrev FE (X : Cx) (Z : ZZ X.K) (W : WX) (e : Expr) (f : Ev → Gp → R U) : Prop := PE X e (tF (kz X Z) W f)
abbrev FT (X : Cx) (Z : ZZ X.K) (W : WX) (e : Expr) (f : Ev → Gp → R Bool) : Prop := PT X e (ttF (kz X Z) W f)
abbrev FA (X : Cx) (Z : ZZ X.K) (W : WX) (es : List Expr) (f : Ev → Gp → R (List U)) : Prop := PA X es (taF (kz X Z) W f)
theorem PEimp {X : Cx} {e : Expr} {t t' : TE} (h : PE X e t) (i : ∀ σ H Q, t' σ H Q → t σ H Q) : PE X e t' := ⟨fun pins s σ H Q I q => h.run pins s σ H Q I (i σ H Q q)⟩
theorem PTimp {X : Cx} {e : Expr} {t t' : TT} (h : PT X e t) (i : ∀ σ H Q, t' σ H Q → t σ H Q) : PT X e t' := ⟨fun pins s σ H Q I q => h.run pins s σ H Q I (i σ H Q q)⟩
theorem PWimp {X : Cx} {e : Expr} {t t' : TT} (h : PW X e t) (i : ∀ σ H Q, t' σ H Q → t σ H Q) : PW X e t' := ⟨fun wh pins s σ H Q I q => h.run wh pins s σ H Q I (i σ H Q q)⟩
theorem PAimp {X : Cx} {e : List Expr} {t t' : TA} (h : PA X e t) (i : ∀ σ H Q, t' σ H Q → t σ H Q) : PA X e t' := ⟨fun pos pins s σ H Q I q => h.run pos pins s σ H Q I (i σ H Q q)⟩
theorem PSimp {X : Cx} {e : Stmt} {t t' : TS} (h : PS X e t) (i : ∀ D σ H, t' D σ H → t D σ H) : PS X e t' := ⟨fun pins s σ H D I q => h.run pins s σ H D I (i D σ H q)⟩
theorem PSsimp {X : Cx} {e : List Stmt} {t t' : TS} (h : PSs X e t) (i : ∀ D σ H, t' D σ H → t D σ H) : PSs X e t' := ⟨fun pins s σ H D I q => h.run pins s σ H D I (i D σ H q)⟩
theorem PGimp {X : Cx} {e : Expr} {t t' : TG} (h : PG X e t) (i : ∀ v σ H Q, t' v σ H Q → t v σ H Q) : PG X e t' := ⟨fun pins s σ H v u Q I r q => h.run pins s σ H v u Q I r (i v σ H Q q)⟩

/-! ### names, constants -/
def eVar (i : Nat) : Ev → Gp → R U := fun env G => match env[i]? with
  | some (some u) => .ok u G
  | _ => .bad
def eC (u : U) : Ev → Gp → R U := fun _ G => .ok u G
section
variable {X : Cx} {Z : ZZ X.K} {W : WX} {pos : Pos}
theorem tVar_of {K : KZ} {W : WX} {i : Nat} (σ : St) (H : Hp) (Q : VK) (h : tF K W (eVar i) σ H Q) : tVar i σ H Q := by
  obtain ⟨ρ, G, env, S, e, h⟩ := h
  cases q : env[i]? with
  | none => simp only [eVar, q] at h; exact h.elim
  | some o =>
    cases o with
    | none => simp only [eVar, q] at h; exact h.elim
    | some u =>
      simp only [eVar, q] at h
      obtain ⟨v, e1, r⟩ := e.get q
      exact ⟨v, e1, h.end_ S r⟩
theorem fv (i : Nat) {x : Str} {pos : Pos} (hN : X.N[i]? = some x := by rfl) (hv : Vis X.env.scope x := by first | exact Or.inl rfl | exact Or.inr (Or.inl rfl) | exact Or.inr (Or.inr rfl)) (hd : (x == ("__debug__" : Str)) = false := by decide)
    (hcd : (x == ("__classdict__" : Str)) = false := by decide) : FE X Z W (.Name x pos) (eVar i) := PEimp (pe_var hN hv hd hcd) tVar_of
theorem tC_of {K : KZ} {W : WX} {u : U} {v : V} (r : ∀ ρ H, RU K ρ H u v) (σ : St) (H : Hp) (Q : VK) (h : tF K W (eC u) σ H Q) : tC v σ H Q := by
  obtain ⟨ρ, G, env, S, e, h⟩ := h
  exact h.end_ (a := u) S (r _ _)
theorem fint {i j pos} : FE X Z W (.Constant (.int i) j pos) (eC (.int i)) := PEimp pe_int (tC_of fun _ _ => .int i)
theorem fbl {b j pos} : FE X Z W (.Constant (.bool b) j pos) (eC (.bl b)) := PEimp pe_bl (tC_of fun _ _ => .bl b)
theorem fnon {j pos} : FE X Z W (.Constant .none j pos) (eC .non) := PEimp pe_non (tC_of fun _ _ => .non)
theorem fstr {x j pos} : FE X Z W (.Constant (.str x) j pos) (eC (.str x)) := PEimp pe_str (tC_of fun _ _ => .str x)
/-- a module's constant: an int, a text -/
theorem fglobI {x : Str} {i : Int} (hg : Gl X x) (hm : ∃ t, X.mg x = some (.int i t)) (hd : (x == ("__debug__" : Str)) = false := by decide) : FE X Z W (.Name x pos) (eC (.int i)) := by
  obtain ⟨t, hm⟩ := hm
  exact PEimp (pe_glob (v := .int i) hg hm ⟨t, rfl⟩ hd) (tC_of fun _ _ => .int i)
theorem fglobS {x z : Str} (hg : Gl X x) (hm : ∃ t, X.mg x = some (.str z t)) (hd : (x == ("__debug__" : Str)) = false := by decide) : FE X Z W (.Name x pos) (eC (.str z)) := by
  obtain ⟨t, hm⟩ := hm
  exact PEimp (pe_glob (v := .str z) hg hm ⟨t, rfl⟩ hd) (tC_of fun _ _ => .str z)
end

/-! ### operators -/
def eBin (g : U → U → Gp → R U) (fa fb : Ev → Gp → R U) : Ev → Gp → R U := fun env G => (fa env G).bind fun x G1 => (fb env G1).bind fun y G2 => g x y G2
def eUn (g : U → Gp → R U) (fa : Ev → Gp → R U) : Ev → Gp → R U := fun env G => (fa env G).bind g
/-- the operator's reading does what g says -/
def Op2 (K : KZ) (r : R2) (g : U → U → Gp → R U) : Prop := ∀ ρ G H x y v w Q E, Sim K ρ G H → RU K ρ H x v → RU K ρ H y w → Post K (RU K) ρ H (g x y G) Q E → r v w H Q
def Op1 (K : KZ) (r : V → Hp → VK → Prop) (g : U → Gp → R U) : Prop := ∀ ρ G H x v Q E, Sim K ρ G H → RU K ρ H x v → Post K (RU K) ρ H (g x G) Q E → r v H Q
theorem tG_mono {α β : Type} {K : KZ} {rel : Rel α β} {W : WX} {f : Ev → Gp → R α} {σ : St} {H : Hp} {Q Q' : β → Hp → Prop} (h : tG K rel W f σ H Q) (i : ∀ b H1, Q b H1 → Q' b H1) : tG K rel W f σ H Q' := by
  obtain ⟨ρ, G, env, S, e, h⟩ := h
  refine ⟨ρ, G, env, S, e, ?_⟩
  cases q : f env G with
  | ok a G1 => rw [q] at h; exact fun b ρ1 H1 p s S1 r => i _ _ (h b ρ1 H1 p s S1 r)
  | exc c fs G1 => rw [q] at h; exact h
  | bad => rw [q] at h; exact h
theorem tOp_of {K : KZ} {W : WX} {r : R2} {g : U → U → Gp → R U} {fa fb : Ev → Gp → R U} (o : Op2 K r g) (σ : St) (H : Hp) (Q : VK) (h : tF K W (eBin g fa fb) σ H Q) : tOp r (tF K W fa) (tF K W fb) σ H Q := by
  obtain ⟨ρ, G, env, S, e, h⟩ := h
  exact tG_mono (step S e h) fun v H1 ⟨ρ1, G1, x, p1, s1, S1, e1, r1, h1⟩ => tG_mono (step S1 e1 h1) fun w H2 ⟨ρ2, G2, y, p2, s2, S2, e2, r2, h2⟩ => o _ _ _ _ _ _ _ _ _ S2 (r1.mono p2 s2) r2 h2
end FL

set_option Elab.async false
set_option linter.all false
set_option maxRecDepth 100000
set_option maxHeartbeats 4000000
set_option autoImplicit false
namespace FL
open PySem PySem.Spec L2

/-! ### binary operators: from two FE to one -/
section
variable {X : Cx} {Z : ZZ X.K} {W : WX} {a b : Expr} {fa fb : Ev → Gp → R U} {pos : Pos}
theorem fop {op : Operator} {r : R2} {g : U → U → Gp → R U} (o : Op2 (kz X Z) r g) (ho : OpR X (binaryOp op) r) (ha : FE X Z W a fa) (hb : FE X Z W b fb) : FE X Z W (.BinOp a op b pos) (eBin g fa fb) := PEimp (pe_op ho ha hb) (tOp_of o)
theorem fcmp {op : CmpOp} {r : R2} {g : U → U → Gp → R U} (o : Op2 (kz X Z) r g) (ho : OpR X (compareOp op) r) (ha : FE X Z W a fa) (hb : FE X Z W b fb) (hm : behindInMarks op b = false) : FE X Z W (.Compare a [op] [b] pos) (eBin g fa fb) := PEimp (pe_cmpR ho ha hb hm) (tOp_of o)
theorem fun1 {op : UnaryOp} {r : V → Hp → VK → Prop} {g : U → Gp → R U} (o : Op1 (kz X Z) r g) (ho : UnR X (unaryOp op) r) (ha : FE X Z W a fa) : FE X Z W (.UnaryOp op a pos) (eUn g fa) := by
  refine PEimp (pe_un ho ha) fun σ H Q h => ?_
  obtain ⟨ρ, G, env, S, e, h⟩ := h
  exact tG_mono (step S e h) fun v H1 ⟨ρ1, G1, x, p1, s1, S1, e1, r1, h1⟩ => o _ _ _ _ _ _ _ S1 r1 h1
end

/-! ### tests -/
/-- a value that is a bool -/
def asB (r : R U) : R Bool := r.bind fun u G => match u with
  | .bl b => .ok b G
  | _ => .bad
def bVal (f : Ev → Gp → R U) : Ev → Gp → R Bool := fun env G => asB (f env G)
section
variable {X : Cx} {Z : ZZ X.K} {W : WX} {a b : Expr} {fa fb : Ev → Gp → R U} {pos : Pos}
theorem tB_of {K : KZ} {W : WX} {f : Ev → Gp → R U} (σ : St) (H : Hp) (Q : Bool → Hp → Prop) (h : ttF K W (bVal f) σ H Q) : tF K W f σ H fun x H1 => ∃ k, x = .bl k ∧ Q k H1 := by
  obtain ⟨ρ, G, env, S, e, h⟩ := h
  refine tG_mono (step (k := fun u G => match u with | .bl b => R.ok b G | _ => .bad) S e h) fun v H1 ⟨ρ1, G1, x, p1, s1, S1, e1, r1, h1⟩ => ?_
  cases r1 with
  | bl k => exact ⟨k, rfl, h1.end_ S1 rfl⟩
  | _ => exact h1.elim
theorem ft_cmp {op : CmpOp} {r : R2} {g : U → U → Gp → R U} (o : Op2 (kz X Z) r g) (ho : OpR X (compareOp op) r) (ha : FE X Z W a fa) (hb : FE X Z W b fb) (hm : behindInMarks op b = false) : FT X Z W (.Compare a [op] [b] pos) (bVal (eBin g fa fb)) := by
  refine PTimp (pt_cmpR ho ha hb hm) fun σ H Q h => ?_
  exact tOp_of o σ H _ (tB_of σ H Q h)
theorem ft_val {e : Expr} {f : Ev → Gp → R U} (h : FE X Z W e f) (he : ∀ whole, isTrue e X.env whole = (do let v ← whole; standAt e.pos; holding [v] (truthy v)) := by intro _; rfl) : FT X Z W e (bVal f) :=
  PTimp (pt_val h he) fun σ H Q q => tB_of σ H Q q
/-- truth of any value -/
def truU (u : U) (G : Gp) : R Bool := match u with
  | .non => .ok false G
  | .bl b => .ok b G
  | .int i => .ok (i != 0) G
  | .str x => if x.length ≤ 16777216 then .ok (x.length != 0) G else .bad
  | .tup xs => .ok (!xs.isEmpty) G
  | .rl xs => .ok (!xs.isEmpty) G
  | .wt xs => .ok (!xs.isEmpty) G
  | .ref l => match G[l]? with
    | some (.lst xs) => .ok (!xs.isEmpty) G
    | _ => .bad
end
def tAndB (f g : Ev → Gp → R Bool) : Ev → Gp → R Bool := fun env G => (f env G).bind fun c G1 => if c = true then g env G1 else .ok false G1
def tOrB (f g : Ev → Gp → R Bool) : Ev → Gp → R Bool := fun env G => (f env G).bind fun c G1 => if c = true then .ok true G1 else g env G1
def tNotB (f : Ev → Gp → R Bool) : Ev → Gp → R Bool := fun env G => (f env G).bind fun c G1 => .ok (!c) G1
abbrev FW (X : Cx) (Z : ZZ X.K) (W : WX) (e : Expr) (f : Ev → Gp → R Bool) : Prop := PW X e (ttF (kz X Z) W f)
section
variable {X : Cx} {Z : ZZ X.K} {W : WX} {a b : Expr} {fa fb : Ev → Gp → R Bool} {pos : Pos} {rest : List Expr}
theorem fw_and1 (ha : FT X Z W a fa) : FW X Z W (.BoolOp .And [a] pos) fa := pw_and1 ha
theorem fw_or1 (ha : FT X Z W a fa) : FW X Z W (.BoolOp .Or [a] pos) fa := pw_or1 ha
theorem fw_and (ha : FT X Z W a fa) (hb : FW X Z W (.BoolOp .And (b :: rest) pos) fb) : FW X Z W (.BoolOp .And (a :: b :: rest) pos) (tAndB fa fb) := by
  refine PWimp (pw_and ha hb) fun σ H Q h => ?_
  obtain ⟨ρ, G, env, S, e, h⟩ := h
  refine tG_mono (step S e h) fun v H1 ⟨ρ1, G1, x, p1, s1, S1, e1, r1, h1⟩ => ?_
  subst r1
  cases x with
  | true => exact ⟨ρ1, G1, env, S1, e1, h1⟩
  | false => exact h1.end_ S1 rfl
theorem fw_or (ha : FT X Z W a fa) (hb : FW X Z W (.BoolOp .Or (b :: rest) pos) fb) : FW X Z W (.BoolOp .Or (a :: b :: rest) pos) (tOrB fa fb) := by
  refine PWimp (pw_or ha hb) fun σ H Q h => ?_
  obtain ⟨ρ, G, env, S, e, h⟩ := h
  refine tG_mono (step S e h) fun v H1 ⟨ρ1, G1, x, p1, s1, S1, e1, r1, h1⟩ => ?_
  subst r1
  cases x with
  | false => exact ⟨ρ1, G1, env, S1, e1, h1⟩
  | true => exact h1.end_ S1 rfl
theorem ft_w (h : FW X Z W a fa) : FT X Z W a fa := PW.pt h
theorem ft_not (ha : FT X Z W a fa) : FT X Z W (.UnaryOp .Not a pos) (tNotB fa) := by
  refine PTimp (pt_not ha) fun σ H Q h => ?_
  obtain ⟨ρ, G, env, S, e, h⟩ := h
  refine tG_mono (step S e h) fun v H1 ⟨ρ1, G1, x, p1, s1, S1, e1, r1, h1⟩ => ?_
  subst r1
  exact h1.end_ S1 rfl
end
/-! .. as values -/
def eAnd (f g : Ev → Gp → R U) : Ev → Gp → R U := fun env G => (bVal f env G).bind fun c G1 => if c = true then g env G1 else .ok (.bl false) G1
def eOr (f g : Ev → Gp → R U) : Ev → Gp → R U := fun env G => (bVal f env G).bind fun c G1 => if c = true then .ok (.bl true) G1 else g env G1
def eNot (f : Ev → Gp → R U) : Ev → Gp → R U := fun env G => (bVal f env G).bind fun c G1 => .ok (.bl (!c)) G1
def eIf (c : Ev → Gp → R Bool) (f g : Ev → Gp → R U) : Ev → Gp → R U := fun env G => (c env G).bind fun b G1 => if b = true then f env G1 else g env G1
section
variable {X : Cx} {Z : ZZ X.K} {W : WX} {a b c : Expr} {fa fb : Ev → Gp → R U} {fc : Ev → Gp → R Bool} {pos : Pos} {rest : List Expr} {op : BoolOp}
theorem bStep {K : KZ} {W : WX} {γ δ : Type} {rel' : Rel γ δ} {f : Ev → Gp → R U} {k : Bool → Gp → R γ} {σ : St} {H : Hp} {ρ : List Addr} {G : Gp} {env : Ev} {Q : δ → Hp → Prop} (S : Sim K ρ G H) (e : REq K ρ H env σ)
    (h : Post K rel' ρ H ((bVal f env G).bind k) Q fun c d H' => W c d σ H') :
    tF K W f σ H fun v H1 => ∃ c, v = .bl c ∧ ∃ ρ1 G1, Sim K ρ1 G1 H1 ∧ REq K ρ1 H1 env σ ∧ Post K rel' ρ1 H1 (k c G1) Q fun c d H' => W c d σ H' := by
  refine tB_of σ H _ ?_
  refine tG_mono (step (f := bVal f) (rel := fun _ _ a b => a = b) S e h) fun v H1 ⟨ρ1, G1, x, p1, s1, S1, e1, r1, h1⟩ => ?_
  subst r1
  exact ⟨ρ1, G1, S1, e1, h1⟩
theorem fone (ha : FE X Z W a fa) : FE X Z W (.BoolOp op [a] pos) fa := pe_one ha
theorem fand (ha : FE X Z W a fa) (hb : FE X Z W (.BoolOp .And (b :: rest) pos) fb) : FE X Z W (.BoolOp .And (a :: b :: rest) pos) (eAnd fa fb) := by
  refine PEimp (pe_and ha hb) fun σ H Q h => ?_
  obtain ⟨ρ, G, env, S, e, h⟩ := h
  refine tG_mono (bStep S e h) fun v H1 ⟨c, ev, ρ1, G1, S1, e1, h1⟩ => ⟨c, ev, ?_⟩
  cases c with
  | true => exact ⟨ρ1, G1, env, S1, e1, h1⟩
  | false => exact h1.end_ S1 (.bl _)
theorem for_ (ha : FE X Z W a fa) (hb : FE X Z W (.BoolOp .Or (b :: rest) pos) fb) : FE X Z W (.BoolOp .Or (a :: b :: rest) pos) (eOr fa fb) := by
  refine PEimp (pe_or ha hb) fun σ H Q h => ?_
  obtain ⟨ρ, G, env, S, e, h⟩ := h
  refine tG_mono (bStep S e h) fun v H1 ⟨c, ev, ρ1, G1, S1, e1, h1⟩ => ⟨c, ev, ?_⟩
  cases c with
  | false => exact ⟨ρ1, G1, env, S1, e1, h1⟩
  | true => exact h1.end_ S1 (.bl _)
theorem fnot (ha : FE X Z W a fa) : FE X Z W (.UnaryOp .Not a pos) (eNot fa) := by
  refine PEimp (pe_not ha) fun σ H Q h => ?_
  obtain ⟨ρ, G, env, S, e, h⟩ := h
  exact tG_mono (bStep S e h) fun v H1 ⟨c, ev, ρ1, G1, S1, e1, h1⟩ => ⟨c, ev, h1.end_ S1 (.bl _)⟩
theorem fif (hc : FT X Z W c fc) (ha : FE X Z W a fa) (hb : FE X Z W b fb) : FE X Z W (.IfExp c a b pos) (eIf fc fa fb) := by
  refine PEimp (pe_ifExp hc ha hb) fun σ H Q h => ?_
  obtain ⟨ρ, G, env, S, e, h⟩ := h
  refine tG_mono (step S e h) fun v H1 ⟨ρ1, G1, x, p1, s1, S1, e1, r1, h1⟩ => ?_
  subst r1
  cases x with
  | true => exact ⟨ρ1, G1, env, S1, e1, h1⟩
  | false => exact ⟨ρ1, G1, env, S1, e1, h1⟩
end

/-! ### arguments -/
def aNil : Ev → Gp → R (List U) := fun _ G => .ok [] G
def aCons (f : Ev → Gp → R U) (g : Ev → Gp → R (List U)) : Ev → Gp → R (List U) := fun env G => (f env G).bind fun x G1 => (g env G1).bind fun xs G2 => .ok (x :: xs) G2
section
variable {X : Cx} {Z : ZZ X.K} {W : WX} {e : Expr} {es : List Expr} {f : Ev → Gp → R U} {fs : Ev → Gp → R (List U)} {pos : Pos}
theorem fanil : FA X Z W [] aNil := by
  refine PAimp pa_nil fun σ H Q h => ?_
  obtain ⟨ρ, G, env, S, e, h⟩ := h
  exact Post.end_ (a := ([] : List U)) h S .nil
theorem facons (ha : FE X Z W e f) (hr : FA X Z W es fs) (hs : starEach (e :: es) X.env = (false, eval e X.env) :: starEach es X.env := by rfl) : FA X Z W (e :: es) (aCons f fs) := by
  refine PAimp (pa_cons ha hr hs) fun σ H Q h => ?_
  obtain ⟨ρ, G, env, S, e, h⟩ := h
  refine tG_mono (step S e h) fun v H1 ⟨ρ1, G1, x, p1, s1, S1, e1, r1, h1⟩ => ?_
  exact tG_mono (step S1 e1 h1) fun w H2 ⟨ρ2, G2, y, p2, s2, S2, e2, r2, h2⟩ => h2.end_ S2 (.cons (r1.mono p2 s2) r2)
/-- one step of a row of values -/
def eTup (g : Ev → Gp → R (List U)) : Ev → Gp → R U := fun env G => (g env G).bind fun xs G1 => if xs.length ≤ 16777216 then .ok (.tup xs) G1 else .bad
def eLst (g : Ev → Gp → R (List U)) : Ev → Gp → R U := fun env G => (g env G).bind fun xs G1 => if xs.length ≤ 16777216 then .ok (.ref G1.length) (G1 ++ [.lst xs]) else .bad
theorem line_eq : (sizeLine : Nat) = 16777216 := sizeLine_eq
theorem newTup {K : KZ} {ρ : List Addr} {G : Gp} {H : Hp} {xs : List U} {vs : List V} {Q : VK} {E : XK} (S : Sim K ρ G H) (r : RUs K ρ H xs vs) (h : Post K (RU K) ρ H (.ok (.tup xs) G) Q E) : ∀ p, H p = none → Q (.ref p) (upd H p (.tup vs)) :=
  fun p hp => h (.ref p) ρ _ pre_refl (stb_new hp) (S.tup hp) (.tup upd_same (r.mono pre_refl (stb_new hp)))
theorem newLst {K : KZ} {ρ : List Addr} {G : Gp} {H : Hp} {xs : List U} {vs : List V} {Q : VK} {E : XK} (S : Sim K ρ G H) (r : RUs K ρ H xs vs) (h : Post K (RU K) ρ H (.ok (.ref G.length) (G ++ [.lst xs])) Q E) : ∀ p, H p = none → Q (.ref p) (upd H p (.lst vs)) :=
  fun p hp => h (.ref p) (ρ ++ [p]) _ ⟨[p], rfl⟩ (stb_new hp) (S.new hp (show RUs K (ρ ++ [p]) _ xs vs from r.mono ⟨[p], rfl⟩ (stb_new hp))) (.ref (by rw [← S.len]; simp))
theorem ftup {k : Nat} (h : FA X Z W es fs) : FE X Z W (.Tuple es k pos) (eTup fs) := by
  refine PEimp (pe_tup h) fun σ H Q h => ?_
  obtain ⟨ρ, G, env, S, e, h⟩ := h
  refine tG_mono (step (rel := RUs (kz X Z)) S e h) fun v H1 ⟨ρ1, G1, x, p1, s1, S1, e1, r1, h1⟩ => ?_
  by_cases hl : x.length ≤ 16777216
  · rw [if_pos hl] at h1
    exact ⟨by rw [← r1.len, line_eq]; exact hl, newTup S1 r1 h1⟩
  · rw [if_neg hl] at h1; exact h1.elim
theorem flst {pos : Pos} (h : FA X Z W es fs) : FE X Z W (.List es pos) (eLst fs) := by
  refine PEimp (pe_lst h) fun σ H Q h => ?_
  obtain ⟨ρ, G, env, S, e, h⟩ := h
  refine tG_mono (step (rel := RUs (kz X Z)) S e h) fun v H1 ⟨ρ1, G1, x, p1, s1, S1, e1, r1, h1⟩ => ?_
  by_cases hl : x.length ≤ 16777216
  · rw [if_pos hl] at h1
    exact ⟨by rw [← r1.len, line_eq]; exact hl, newLst S1 r1 h1⟩
  · rw [if_neg hl] at h1; exact h1.elim
end

/-! ### statements -/
def PostS (K : KZ) (ρ : List Addr) (H : Hp) (r : SR) (D : Ends) (W : WX) : Prop := match r with
  | .nx env' G' => ∀ σ' ρ' H', ρ <+: ρ' → Stb K H H' → Sim K ρ' G' H' → REq K ρ' H' env' σ' → D.nx σ' H'
  | .ret u G' => ∀ v ρ' H', ρ <+: ρ' → Stb K H H' → Sim K ρ' G' H' → RU K ρ' H' u v → D.rt v H'
  | .brk env' G' => ∀ σ' ρ' H', ρ <+: ρ' → Stb K H H' → Sim K ρ' G' H' → REq K ρ' H' env' σ' → D.bk σ' H'
  | .ct env' G' => ∀ σ' ρ' H', ρ <+: ρ' → Stb K H H' → Sim K ρ' G' H' → REq K ρ' H' env' σ' → D.ct σ' H'
  | .exc c fs env' G' => ∀ σ' d vfs ρ' H', ρ <+: ρ' → Stb K H H' → Sim K ρ' G' H' → REq K ρ' H' env' σ' → H' d = some (.xd vfs) → RFs K ρ' H' fs vfs → W (.ref (He.ga K.K c)) (some d) σ' H'
  | .bad => False
theorem PostS.lift {K : KZ} {ρ ρ1 : List Addr} {H H1 : Hp} {r : SR} {D : Ends} {W : WX} (h : PostS K ρ H r D W) (p : ρ <+: ρ1) (s : Stb K H H1) : PostS K ρ1 H1 r D W := by
  cases r with
  | nx e G => exact fun σ ρ' H' p' s' S q => h σ ρ' H' (p.trans p') (s.trans s') S q
  | brk e G => exact fun σ ρ' H' p' s' S q => h σ ρ' H' (p.trans p') (s.trans s') S q
  | ct e G => exact fun σ ρ' H' p' s' S q => h σ ρ' H' (p.trans p') (s.trans s') S q
  | ret u G => exact fun v ρ' H' p' s' S q => h v ρ' H' (p.trans p') (s.trans s') S q
  | exc c fs e G => exact fun σ d vfs ρ' H' p' s' S q1 q2 q3 => h σ d vfs ρ' H' (p.trans p') (s.trans s') S q1 q2 q3
  | bad => exact h
theorem PostS.nx_ {K : KZ} {ρ : List Addr} {H : Hp} {env : Ev} {G : Gp} {D : Ends} {W : WX} (h : PostS K ρ H (.nx env G) D W) {σ : St} (S : Sim K ρ G H) (e : REq K ρ H env σ) : D.nx σ H := h σ ρ H pre_refl Stb.refl S e
def tS (K : KZ) (W : WX) (g : Ev → Gp → SR) : TS := fun D σ H => ∃ ρ G env, Sim K ρ G H ∧ REq K ρ H env σ ∧ PostS K ρ H (g env G) D W
abbrev FS (X : Cx) (Z : ZZ X.K) (W : WX) (st : Stmt) (g : Ev → Gp → SR) : Prop := PS X st (tS (kz X Z) W g)
abbrev FSs (X : Cx) (Z : ZZ X.K) (W : WX) (st : List Stmt) (g : Ev → Gp → SR) : Prop := PSs X st (tS (kz X Z) W g)
theorem stepS {α β : Type} {K : KZ} {rel : Rel α β} {W : WX} {f : Ev → Gp → R α} {k : α → Gp → SR} {σ : St} {H : Hp} {ρ : List Addr} {G : Gp} {env : Ev} {D : Ends} (S : Sim K ρ G H) (e : REq K ρ H env σ)
    (h : PostS K ρ H ((f env G).andThen env k) D W) :
    tG K rel W f σ H fun b H1 => ∃ ρ1 G1 a, ρ <+: ρ1 ∧ Stb K H H1 ∧ Sim K ρ1 G1 H1 ∧ REq K ρ1 H1 env σ ∧ rel ρ1 H1 a b ∧ PostS K ρ1 H1 (k a G1) D W := by
  refine ⟨ρ, G, env, S, e, ?_⟩
  cases q : f env G with
  | ok a G1 =>
    rw [q] at h
    exact fun b ρ1 H1 p s S1 r => ⟨ρ1, G1, a, p, s, S1, e.mono p s, r, PostS.lift h p s⟩
  | exc c fs G1 =>
    rw [q] at h
    exact fun d vfs ρ' H' p s S1 q1 q2 => h σ d vfs ρ' H' p s S1 (e.mono p s) q1 q2
  | bad => rw [q] at h; exact h
def sNil : Ev → Gp → SR := fun env G => .nx env G
def sSeq (g1 g2 : Ev → Gp → SR) : Ev → Gp → SR := fun env G => match g1 env G with
  | .nx env' G' => g2 env' G'
  | r => r
def sExpr (f : Ev → Gp → R U) : Ev → Gp → SR := fun env G => (f env G).andThen env fun _ G1 => .nx env G1
def sRet (f : Ev → Gp → R U) : Ev → Gp → SR := fun env G => (f env G).andThen env fun u G1 => .ret u G1
def sRetN : Ev → Gp → SR := fun _ G => .ret .non G
def sBrk : Ev → Gp → SR := fun env G => .brk env G
def sCt : Ev → Gp → SR := fun env G => .ct env G
def sIf (c : Ev → Gp → R Bool) (g1 g2 : Ev → Gp → SR) : Ev → Gp → SR := fun env G => (c env G).andThen env fun b G1 => if b = true then g1 env G1 else g2 env G1
def sAsg (f : Ev → Gp → R U) (gf : U → Ev → Gp → R Ev) : Ev → Gp → SR := fun env G => (f env G).andThen env fun u G1 => (gf u env G1).andThen env fun env' G2 => .nx env' G2
def gNm (i : Nat) : U → Ev → Gp → R Ev := fun u env G => .ok (env.set i (some u)) G
section
variable {X : Cx} {Z : ZZ X.K} {W : WX} {st : Stmt} {sts : List Stmt} {g g1 g2 : Ev → Gp → SR} {e c : Expr} {f : Ev → Gp → R U} {fc : Ev → Gp → R Bool} {pos : Pos}
theorem fsnil : FSs X Z W [] sNil := PSsimp pss_nil fun D σ H ⟨_, _, _, S, e, h⟩ => h.nx_ S e
theorem seqT {K : KZ} {W : WX} {g1 g2 : Ev → Gp → SR} (D : Ends) (σ : St) (H : Hp) (h : tS K W (sSeq g1 g2) D σ H) : tSeq (tS K W g1) (tS K W g2) D σ H := by
  obtain ⟨ρ, G, env, S, e, h⟩ := h
  refine ⟨ρ, G, env, S, e, ?_⟩
  unfold sSeq at h
  cases q : g1 env G with
  | nx env' G' => rw [q] at h; exact fun σ' ρ' H' p s S' e' => ⟨ρ', G', env', S', e', h.lift p s⟩
  | ret u G' => rw [q] at h; exact h
  | brk env' G' => rw [q] at h; exact h
  | ct env' G' => rw [q] at h; exact h
  | exc c fs env' G' => rw [q] at h; exact h
  | bad => rw [q] at h; exact h
theorem fscons (h1 : FS X Z W st g1) (h2 : FSs X Z W sts g2) : FSs X Z W (st :: sts) (sSeq g1 g2) := PSsimp (pss_cons h1 h2) seqT
theorem fsone (h1 : FS X Z W st g1) : FSs X Z W [st] g1 := pss_one h1
theorem fpass : FS X Z W (.Pass pos) sNil := PSimp ps_pass fun D σ H ⟨_, _, _, S, e, h⟩ => h.nx_ S e
theorem fbrk : FS X Z W (.Break pos) sBrk := PSimp ps_break fun D σ H ⟨_, _, _, S, e, h⟩ => h σ _ H pre_refl Stb.refl S e
theorem fct : FS X Z W (.Continue pos) sCt := PSimp ps_continue fun D σ H ⟨_, _, _, S, e, h⟩ => h σ _ H pre_refl Stb.refl S e
theorem fdoc {x j pos pos'} : FS X Z W (.Expr (.Constant (.str x) j pos) pos') sNil := PSimp ps_doc fun D σ H ⟨_, _, _, S, e, h⟩ => h.nx_ S e
theorem fexpr (he : FE X Z W e f) (hs : swapsWith e none pos.line X.env = pure false := by rfl) : FS X Z W (.Expr e pos) (sExpr f) := by
  refine PSimp (ps_expr he hs) fun D σ H ⟨ρ, G, env, S, e, h⟩ => ?_
  exact tG_mono (stepS S e h) fun v H1 ⟨ρ1, G1, x, p1, s1, S1, e1, r1, h1⟩ => h1.nx_ S1 e1
theorem fret (he : FE X Z W e f) : FS X Z W (.Return (some e) pos) (sRet f) := by
  refine PSimp (ps_ret he) fun D σ H ⟨ρ, G, env, S, e, h⟩ => ?_
  exact tG_mono (stepS S e h) fun v H1 ⟨ρ1, G1, x, p1, s1, S1, e1, r1, h1⟩ => h1 v _ _ pre_refl Stb.refl S1 r1
theorem fretN : FS X Z W (.Return none pos) sRetN := PSimp ps_retN fun D σ H ⟨_, _, _, S, e, h⟩ => h .non _ _ pre_refl Stb.refl S .non
theorem fsif {a b : List Stmt} (hc : FT X Z W c fc) (ha : FSs X Z W a g1) (hb : FSs X Z W b g2) : FS X Z W (.If c a b pos) (sIf fc g1 g2) := by
  refine PSimp (ps_if hc ha hb) fun D σ H ⟨ρ, G, env, S, e, h⟩ => ?_
  refine tG_mono (stepS S e h) fun v H1 ⟨ρ1, G1, x, p1, s1, S1, e1, r1, h1⟩ => ?_
  subst r1
  cases x with
  | true => exact ⟨ρ1, G1, env, S1, e1, h1⟩
  | false => exact ⟨ρ1, G1, env, S1, e1, h1⟩
/-! targets -/
def tgF (K : KZ) (gf : U → Ev → Gp → R Ev) : TG := fun v σ H Q => ∃ ρ G env u, Sim K ρ G H ∧ REq K ρ H env σ ∧ RU K ρ H u v ∧ Post K (REq K) ρ H (gf u env G) Q (fun _ _ _ => False)
abbrev FG (X : Cx) (Z : ZZ X.K) (e : Expr) (gf : U → Ev → Gp → R Ev) : Prop := PG X e (tgF (kz X Z) gf)
theorem fgname {i : Nat} {x : Str} (hN : X.N.Nodup) (hi : X.N[i]? = some x) (hx : Loc X.env.scope x) (hf : X.fn x = true ∨ X.env.scope.names.lookup x = some .local := by first | exact .inl rfl | exact .inr rfl | assumption) : FG X Z (.Name x pos) (gNm i) :=
  PGimp (pg_name hN hi hx hf) fun v σ H Q ⟨ρ, G, env, u, S, e, r, h⟩ => h.end_ S (e.set r i)
theorem toG {K : KZ} {W : WX} {gf : U → Ev → Gp → R Ev} {ρ1 : List Addr} {G1 : Gp} {H1 : Hp} {env : Ev} {σ : St} {x : U} {v : V} {D : Ends} (S1 : Sim K ρ1 G1 H1) (e1 : REq K ρ1 H1 env σ) (r1 : RU K ρ1 H1 x v)
    (hx : ∀ c fs G, gf x env G1 ≠ .exc c fs G) (h1 : PostS K ρ1 H1 ((gf x env G1).andThen env fun env' G2 => .nx env' G2) D W) : tgF K gf v σ H1 D.nx := by
  refine ⟨ρ1, G1, env, x, S1, e1, r1, ?_⟩
  cases q : gf x env G1 with
  | ok env' G' => rw [q] at h1; exact fun σ' ρ' H' p s S' e' => h1 σ' ρ' H' p s S' e'
  | exc c fs G' => exact absurd q (hx c fs G')
  | bad => rw [q] at h1; exact h1
/-- a target that lets no exception out -/
def NoX (gf : U → Ev → Gp → R Ev) : Prop := ∀ u env G c fs G', gf u env G ≠ .exc c fs G'
theorem fasg {tg : Expr} {gf : U → Ev → Gp → R Ev} (he : FE X Z W e f) (hg : FG X Z tg gf) (nx : NoX gf) (hs : swapsWithSole [tg] e pos.line X.env = pure false := by rfl) (hw : swappedStores [tg] e X.env = pure none := by rfl)
    (h1 : (assignEach [tg] X.env).map (·.2) = [assign tg X.env] := by rfl) : FS X Z W (.Assign [tg] e pos) (sAsg f gf) := by
  refine PSimp (ps_asg he hg hs hw h1) fun D σ H ⟨ρ, G, env, S, e, h⟩ => ?_
  exact tG_mono (stepS S e h) fun v H1 ⟨ρ1, G1, x, p1, s1, S1, e1, r1, h1⟩ => toG S1 e1 r1 (nx x env G1) h1
theorem fset {i : Nat} {x : Str} {pos' : Pos} (hN : X.N.Nodup) (hi : X.N[i]? = some x) (hx : Loc X.env.scope x) (he : FE X Z W e f) (hs : swapsWith e (some (.Name x pos')) pos.line X.env = pure false := by rfl)
    (hf : X.fn x = true ∨ X.env.scope.names.lookup x = some .local := by first | exact .inl rfl | exact .inr rfl | assumption) : FS X Z W (.Assign [.Name x pos'] e pos) (sAsg f (gNm i)) := by
  refine PSimp (ps_set hN hi hx he hs hf) fun D σ H ⟨ρ, G, env, S, e, h⟩ => ?_
  exact tG_mono (stepS S e h) fun v H1 ⟨ρ1, G1, x, p1, s1, S1, e1, r1, h1⟩ => h1 _ _ _ pre_refl Stb.refl S1 (e1.set r1 i)
theorem nxName (i : Nat) : NoX (gNm i) := fun _ _ _ _ _ _ h => nomatch h
end
/-! tuple targets -/
def gNil : List U → Ev → Gp → R Ev := fun us env G => match us with
  | [] => .ok env G
  | _ => .bad
def gCons (g : U → Ev → Gp → R Ev) (gs : List U → Ev → Gp → R Ev) : List U → Ev → Gp → R Ev := fun us env G => match us with
  | u :: r => (g u env G).bind fun env' G' => gs r env' G'
  | [] => .bad
def gTup (gs : List U → Ev → Gp → R Ev) (n : Nat) : U → Ev → Gp → R Ev := fun u env G => match u with
  | .tup xs => if xs.length = n then gs xs env G else .bad
  | _ => .bad
/-- a list or a tuple -/
def gSq (gs : List U → Ev → Gp → R Ev) (n : Nat) : U → Ev → Gp → R Ev := fun u env G => match u with
  | .tup xs => if xs.length = n then gs xs env G else .bad
  | .ref l => match G[l]? with
    | some (.lst xs) => if xs.length = n then gs xs env G else .bad
    | _ => .bad
  | _ => .bad
section
variable {X : Cx} {Z : ZZ X.K} {W : WX} {e : Expr} {es : List Expr} {pos : Pos}
def tgsF (K : KZ) (gs : List U → Ev → Gp → R Ev) : TGs := fun vs σ H Q => ∃ ρ G env us, Sim K ρ G H ∧ REq K ρ H env σ ∧ RUs K ρ H us vs ∧ Post K (REq K) ρ H (gs us env G) Q (fun _ _ _ => False)
abbrev FGs (X : Cx) (Z : ZZ X.K) (es : List Expr) (gs : List U → Ev → Gp → R Ev) : Prop := PGs X es (tgsF (kz X Z) gs)
theorem PGsimp {es : List Expr} {t t' : TGs} (h : PGs X es t) (i : ∀ vs σ H Q, t' vs σ H Q → t vs σ H Q) : PGs X es t' := ⟨fun pins s σ H vs us Q I r q => h.run pins s σ H vs us Q I r (i vs σ H Q q)⟩
theorem fgnil : FGs X Z [] gNil := by
  refine PGsimp pgs_nil fun vs σ H Q ⟨ρ, G, env, us, S, e, r, h⟩ => ?_
  cases r with
  | nil => exact ⟨rfl, h.end_ S e⟩
  | cons _ _ => exact h.elim
theorem fgcons {g : U → Ev → Gp → R Ev} {gs : List U → Ev → Gp → R Ev} (h1 : FG X Z e g) (h2 : FGs X Z es gs) (hs : (assignEach (e :: es) X.env).map (·.2) = assign e X.env :: (assignEach es X.env).map (·.2) := by rfl) : FGs X Z (e :: es) (gCons g gs) := by
  refine PGsimp (pgs_cons h1 h2 hs) fun vs σ H Q ⟨ρ, G, env, us, S, e, r, h⟩ => ?_
  cases r with
  | nil => exact h.elim
  | @cons x v xs vs hx hr =>
    refine ⟨v, vs, rfl, ρ, G, env, x, S, e, hx, ?_⟩
    have h : Post (kz X Z) (REq (kz X Z)) ρ H ((g x env G).bind fun env' G' => gs xs env' G') Q (fun _ _ _ => False) := h
    cases q : g x env G with
    | ok env' G' => rw [q] at h; exact fun σ' ρ' H' p s S' e' => ⟨ρ', G', env', xs, S', e', hr.mono p s, Post.lift h p s⟩
    | exc c fs G' => rw [q] at h; exact h
    | bad => rw [q] at h; exact h
theorem fgtup {k n : Nat} {gs : List U → Ev → Gp → R Ev} (hc : X.calm = true) (h : FGs X Z es gs) (hn : (assignEach es X.env).length = n := by rfl) (hst : (assignEach es X.env).findIdx? (·.1) = none := by rfl) : FG X Z (.Tuple es k pos) (gTup gs n) := by
  refine PGimp (pg_tup hc h hn hst) fun v σ H Q ⟨ρ, G, env, u, S, e, r, h⟩ => ?_
  cases r with
  | @tup xs vs a ht hr =>
    have h : Post (kz X Z) (REq (kz X Z)) ρ H (if xs.length = n then gs xs env G else .bad) Q (fun _ _ _ => False) := h
    by_cases hl : xs.length = n
    · rw [if_pos hl] at h
      exact ⟨a, vs, rfl, ht.sq, by rw [← hr.len]; exact hl, ρ, G, env, xs, S, e, hr, h⟩
    · rw [if_neg hl] at h; exact h.elim
  | _ => exact h.elim
end
end FL

set_option Elab.async false
set_option linter.all false
set_option maxRecDepth 100000
set_option maxHeartbeats 4000000
set_option autoImplicit false
namespace FL
open PySem PySem.Spec L2

def NoXs (gs : List U → Ev → Gp → R Ev) : Prop := ∀ us env G c fs G', gs us env G ≠ .exc c fs G'
theorem nxNil : NoXs gNil := fun us env G c fs G' h => by
  cases us <;> exact nomatch h
theorem nxCons {g : U → Ev → Gp → R Ev} {gs : List U → Ev → Gp → R Ev} (h1 : NoX g) (h2 : NoXs gs) : NoXs (gCons g gs) := fun us env G c fs G' h => by
  cases us with
  | nil => exact nomatch h
  | cons u r =>
    have h : (g u env G).bind (fun env' G' => gs r env' G') = .exc c fs G' := h
    cases q : g u env G with
    | ok env' G1 => rw [q] at h; exact h2 _ _ _ _ _ _ h
    | exc c' fs' G1 => exact h1 _ _ _ _ _ _ q
    | bad => rw [q] at h; exact nomatch h
theorem nxTup {gs : List U → Ev → Gp → R Ev} {n : Nat} (h : NoXs gs) : NoX (gTup gs n) := fun u env G c fs G' q => by
  cases u with
  | tup xs =>
    have q : (if xs.length = n then gs xs env G else .bad) = R.exc c fs G' := q
    by_cases hl : xs.length = n
    · rw [if_pos hl] at q; exact h _ _ _ _ _ _ q
    · rw [if_neg hl] at q; exact nomatch q
  | _ => exact nomatch q

/-! ### what is walked -/
inductive Src where
  | items (xs : List U)
  | live (n : Nat) (nth : Nat → Gp → Option (Option U))
def Src.at_ (s : Src) (i : Nat) (G : Gp) : Option (Option U) := match s with
  | .items xs => some xs[i]?
  | .live _ nth => nth i G
def Src.fuel (s : Src) : Nat := match s with
  | .items xs => xs.length + 1
  | .live n _ => n
/-- the iterator J, made at ρ0, H0, gives what the source tells -/
def Wk (K : KZ) (ρ0 : List Addr) (H0 : Hp) (src : Src) (J : It) : Prop := ∀ ρ H G i, ρ0 <+: ρ → Stb K H0 H → Sim K ρ G H → match src.at_ i G with
  | none => True
  | some none => J.stop i H
  | some (some u) => J.go i H ∧ ∀ x H', J.yld i H x H' → Stb K H H' ∧ Sim K ρ G H' ∧ RU K ρ H' u x
def tiF (K : KZ) (W : WX) (f : Ev → Gp → R Src) : TI := fun σ H Rr => ∃ ρ G env, Sim K ρ G H ∧ REq K ρ H env σ ∧ match f env G with
  | .ok src G' => ∀ ρ' H' J, ρ <+: ρ' → Stb K H H' → Sim K ρ' G' H' → Wk K ρ' H' src J → Rr J H'
  | .exc c fs G' => ∀ d vfs ρ' H', ρ <+: ρ' → Stb K H H' → Sim K ρ' G' H' → H' d = some (.xd vfs) → RFs K ρ' H' fs vfs → W (.ref (He.ga K.K c)) (some d) σ H'
  | .bad => False
abbrev FI (X : Cx) (Z : ZZ X.K) (W : WX) (tg e : Expr) (f : Ev → Gp → R Src) : Prop := PI X tg e (tiF (kz X Z) W f)
theorem PIimp {X : Cx} {tg e : Expr} {t t' : TI} (h : PI X tg e t) (i : ∀ σ H Q, t' σ H Q → t σ H Q) : PI X tg e t' := ⟨fun pins s σ H Q I q => h.run pins s σ H Q I (i σ H Q q)⟩

/-! sources made of values: k tells the source, the heap as it was -/
def iOf (f : Ev → Gp → R U) (k : U → Gp → Option Src) : Ev → Gp → R Src := fun env G => (f env G).bind fun u G1 => match k u G1 with
  | some src => .ok src G1
  | none => .bad
theorem iStep {K : KZ} {W : WX} {f : Ev → Gp → R U} {k : U → Gp → Option Src} {σ : St} {H : Hp} {Q : It → Hp → Prop} (h : tiF K W (iOf f k) σ H Q) :
    tF K W f σ H fun v H1 => ∃ ρ1 G1 u src, Sim K ρ1 G1 H1 ∧ RU K ρ1 H1 u v ∧ k u G1 = some src ∧ ∀ J, Wk K ρ1 H1 src J → Q J H1 := by
  obtain ⟨ρ, G, env, S, e, h⟩ := h
  refine ⟨ρ, G, env, S, e, ?_⟩
  unfold iOf at h
  cases q : f env G with
  | ok u G1 =>
    rw [q] at h
    intro v ρ1 H1 p s S1 r
    have h : (match (match k u G1 with
      | some src => R.ok src G1
      | none => R.bad : R Src) with
      | .ok src G' => ∀ ρ' H' J, ρ <+: ρ' → Stb K H H' → Sim K ρ' G' H' → Wk K ρ' H' src J → Q J H'
      | .exc c fs G' => ∀ d vfs ρ' H', ρ <+: ρ' → Stb K H H' → Sim K ρ' G' H' → H' d = some (.xd vfs) → RFs K ρ' H' fs vfs → W (.ref (He.ga K.K c)) (some d) σ H'
      | .bad => False) := h
    cases qk : k u G1 with
    | none => rw [qk] at h; exact h.elim
    | some src => rw [qk] at h; exact ⟨ρ1, G1, u, src, S1, r, qk, fun J w => h ρ1 H1 J p s S1 w⟩
  | exc c fs G1 => rw [q] at h; exact fun d vfs ρ' H' p s S' e1 e2 => h d vfs ρ' H' p s S' e1 e2
  | bad => rw [q] at h; exact h
/-- a list, a tuple as it stands -/
def kSeq (u : U) (G : Gp) : Option Src := match u with
  | .tup xs => some (.items xs)
  | .rl xs => some (.items xs)
  | .ref l => match G[l]? with
    | some (.lst xs) => some (.live (xs.length + 1) fun i G => match G[l]? with
      | some (.lst ys) => some ys[i]?
      | _ => none)
    | _ => none
  | _ => none
theorem Sim.list {K : KZ} {ρ : List Addr} {G : Gp} {H : Hp} (S : Sim K ρ G H) {l : Nat} {a : Addr} {xs : List U} (ha : ρ[l]? = some a) (hl : G[l]? = some (.lst xs)) : ∃ vs, H a = some (.lst vs) ∧ RUs K ρ H xs vs := by
  obtain ⟨ho, e, r⟩ := S.ob l _ a hl ha
  cases ho <;> first | exact r.elim | exact ⟨_, e, r⟩
theorem wk_tup {K : KZ} {ρ : List Addr} {H : Hp} {xs : List U} {vs : List V} {a : Addr} (h : TupAt K H a vs) (r : RUs K ρ H xs vs) : Wk K ρ H (.items xs) (Itt K.K a) := by
  intro ρ' H' G i p s S
  show match some xs[i]? with
    | none => True
    | some none => (Itt K.K a).stop i H'
    | some (some u) => (Itt K.K a).go i H' ∧ ∀ x H'', (Itt K.K a).yld i H' x H'' → Stb K H' H'' ∧ Sim K ρ' G H'' ∧ RU K ρ' H'' u x
  have h' := (s.tupAt h).sq
  cases q : xs[i]? with
  | none => exact ⟨vs, h', by rw [← r.len]; exact List.getElem?_eq_none_iff.mp q⟩
  | some u =>
    obtain ⟨v, e, rv⟩ := r.getU q
    refine ⟨⟨vs, v, h', e⟩, fun x H'' y => ?_⟩
    obtain ⟨rfl, y⟩ := y
    have := y vs h'
    rw [e] at this; cases this
    exact ⟨Stb.refl, S, rv.mono p s⟩
theorem wk_rl {K : KZ} {ρ : List Addr} {H : Hp} {xs : List U} {vs : List V} {a : Addr} (h : RLs K H a vs) (r : RUs K ρ H xs vs) : Wk K ρ H (.items xs) (Itl K.K a) := by
  intro ρ' H' G i p s S
  show match some xs[i]? with
    | none => True
    | some none => (Itl K.K a).stop i H'
    | some (some u) => (Itl K.K a).go i H' ∧ ∀ x H'', (Itl K.K a).yld i H' x H'' → Stb K H' H'' ∧ Sim K ρ' G H'' ∧ RU K ρ' H'' u x
  have h' := (s.rls h).sq
  cases q : xs[i]? with
  | none => exact ⟨vs, h', by rw [← r.len]; exact List.getElem?_eq_none_iff.mp q⟩
  | some u =>
    obtain ⟨v, e, rv⟩ := r.getU q
    refine ⟨⟨vs, v, h', e⟩, fun x H'' y => ?_⟩
    obtain ⟨rfl, y⟩ := y
    have := y vs h'
    rw [e] at this; cases this
    exact ⟨Stb.refl, S, rv.mono p s⟩
theorem wk_live {K : KZ} {ρ : List Addr} {H : Hp} {l : Nat} {a : Addr} {n : Nat} (ha : ρ[l]? = some a) : Wk K ρ H (.live n fun i G => match G[l]? with
      | some (.lst ys) => some ys[i]?
      | _ => none) (Itl K.K a) := by
  intro ρ' H' G i p s S
  show match (match G[l]? with
      | some (.lst ys) => some ys[i]?
      | _ => none : Option (Option U)) with
    | none => True
    | some none => (Itl K.K a).stop i H'
    | some (some u) => (Itl K.K a).go i H' ∧ ∀ x H'', (Itl K.K a).yld i H' x H'' → Stb K H' H'' ∧ Sim K ρ' G H'' ∧ RU K ρ' H'' u x
  cases q : G[l]? with
  | none => trivial
  | some o =>
    cases o with
    | lst ys =>
      obtain ⟨vs, e, r⟩ := S.list (pre_get p ha) q
      show match some ys[i]? with
        | none => True
        | some none => (Itl K.K a).stop i H'
        | some (some u) => (Itl K.K a).go i H' ∧ ∀ x H'', (Itl K.K a).yld i H' x H'' → Stb K H' H'' ∧ Sim K ρ' G H'' ∧ RU K ρ' H'' u x
      cases q2 : ys[i]? with
      | none => exact ⟨vs, SqL.of e, by rw [← r.len]; exact List.getElem?_eq_none_iff.mp q2⟩
      | some u =>
        obtain ⟨v, e2, rv⟩ := r.getU q2
        refine ⟨⟨vs, v, SqL.of e, e2⟩, fun x H'' y => ?_⟩
        obtain ⟨rfl, y⟩ := y
        have := y vs (SqL.of e)
        rw [e2] at this; cases this
        exact ⟨Stb.refl, S, rv⟩
    | _ => trivial
section
variable {X : Cx} {Z : ZZ X.K} {W : WX} {tg e : Expr} {f : Ev → Gp → R U} {pos : Pos}
/-- both iterables at once: a list or a tuple -/
def iSeqA (K : PySem.W.Frag) (t : TE) : TI := fun σ H Q => t σ H fun x H1 => ∃ a, x = .ref a ∧ (((∃ xs, SqL K H1 a xs) ∧ Q (Itl K a) H1) ∨ ((∃ xs, SqT K H1 a xs) ∧ Q (Itt K a) H1))
theorem pi_seqA {t : TE} (he : PE X e t) : PI X tg e (iSeqA X.K t) := by
  refine ⟨fun pins s σ H Rr I h => ?_⟩
  refine thn (he.run pins s σ H _ I h) fun v s1 ⟨x, H1, I1, r1, q1⟩ => ?_
  obtain ⟨a, rfl, q1⟩ := q1
  cases r1
  rcases q1 with ⟨⟨xs, hq⟩, q⟩ | ⟨⟨xs, hq⟩, q⟩
  · obtain ⟨its, rv, p, hz⟩ := I1.list hq
    refine wpAny_pyIter_list p.isList ?_
    refine ⟨s1.heap.objs.size, [s1.heap.objs.size], _, _, H1, rfl, I1.kept (t' := s1.toks) fun b o e => Heap.get?_push_of_some _ e, turn_list a _, ⟨_, Heap.get?_push_size _ rfl, rfl, rfl⟩, fun b hb => ?_, q⟩
    have e : b = s1.heap.objs.size := by simpa using hb
    subst e
    exact I1.fpOk (Nat.le_refl _) (I1.hok.fresh (Nat.le_refl _))
  · obtain ⟨its, rv, p, hz⟩ := I1.tuple hq
    refine wpAny_pyIter_tuple (show s1.heap.IsTuple a its.toArray from p) ?_
    refine ⟨s1.heap.objs.size, [s1.heap.objs.size], _, _, H1, rfl, I1.kept (t' := s1.toks) fun b o e => Heap.get?_push_of_some _ e, turn_tuple a _, ⟨_, Heap.get?_push_size _ rfl, rfl, rfl⟩, fun b hb => ?_, q⟩
    have e : b = s1.heap.objs.size := by simpa using hb
    subst e
    exact I1.fpOk (Nat.le_refl _) (I1.hok.fresh (Nat.le_refl _))
theorem fiseq (he : FE X Z W e f) : FI X Z W tg e (iOf f kSeq) := by
  refine PIimp (pi_seqA he) fun σ H Q h => ?_
  refine tG_mono (iStep h) fun v H1 ⟨ρ1, G1, u, src, S1, r1, hk, q⟩ => ?_
  cases r1 with
  | tup ht hr => cases hk; exact ⟨_, rfl, .inr ⟨⟨_, ht.sq⟩, q _ (wk_tup ht hr)⟩⟩
  | rl ht hr => cases hk; exact ⟨_, rfl, .inl ⟨⟨_, ht.sq⟩, q _ (wk_rl ht hr)⟩⟩
  | @ref l a ha =>
    unfold kSeq at hk
    simp only at hk
    cases q2 : G1[l]? with
    | none => rw [q2] at hk; exact nomatch hk
    | some o =>
      rw [q2] at hk
      cases o with
      | lst xs =>
        cases hk
        obtain ⟨vs, e, r⟩ := S1.list ha q2
        exact ⟨_, rfl, .inl ⟨⟨_, SqL.of e⟩, q _ (wk_live ha)⟩⟩
      | _ => exact nomatch hk
  | _ => exact nomatch hk
/-! ranges -/
def kRng1 (us : List U) (G : Gp) : Option Src := match us with
  | [.int j] => if -(2 ^ 62) ≤ j ∧ j < 2 ^ 62 then some (.live (j.toNat + 1) fun i _ => some (if i < j.toNat then some (.int (0 + (i : Nat))) else none)) else none
  | _ => none
def kRng2 (us : List U) (G : Gp) : Option Src := match us with
  | [.int i0, .int j] => if -(2 ^ 62) ≤ i0 ∧ i0 < 2 ^ 62 ∧ -(2 ^ 62) ≤ j ∧ j < 2 ^ 62 then some (.live ((j - i0).toNat + 1) fun i _ => some (if i < (j - i0).toNat then some (.int (i0 + (i : Nat))) else none)) else none
  | _ => none
def iOfs (f : Ev → Gp → R (List U)) (k : List U → Gp → Option Src) : Ev → Gp → R Src := fun env G => (f env G).bind fun us G1 => match k us G1 with
  | some src => .ok src G1
  | none => .bad
theorem iSteps {K : KZ} {W : WX} {f : Ev → Gp → R (List U)} {k : List U → Gp → Option Src} {σ : St} {H : Hp} {Q : It → Hp → Prop} (h : tiF K W (iOfs f k) σ H Q) :
    taF K W f σ H fun vs H1 => ∃ ρ1 G1 us src, Sim K ρ1 G1 H1 ∧ RUs K ρ1 H1 us vs ∧ k us G1 = some src ∧ ∀ J, Wk K ρ1 H1 src J → Q J H1 := by
  obtain ⟨ρ, G, env, S, e, h⟩ := h
  refine ⟨ρ, G, env, S, e, ?_⟩
  unfold iOfs at h
  cases q : f env G with
  | ok u G1 =>
    rw [q] at h
    intro v ρ1 H1 p s S1 r
    have h : (match (match k u G1 with
      | some src => R.ok src G1
      | none => R.bad : R Src) with
      | .ok src G' => ∀ ρ' H' J, ρ <+: ρ' → Stb K H H' → Sim K ρ' G' H' → Wk K ρ' H' src J → Q J H'
      | .exc c fs G' => ∀ d vfs ρ' H', ρ <+: ρ' → Stb K H H' → Sim K ρ' G' H' → H' d = some (.xd vfs) → RFs K ρ' H' fs vfs → W (.ref (He.ga K.K c)) (some d) σ H'
      | .bad => False) := h
    cases qk : k u G1 with
    | none => rw [qk] at h; exact h.elim
    | some src => rw [qk] at h; exact ⟨ρ1, G1, u, src, S1, r, qk, fun J w => h ρ1 H1 J p s S1 w⟩
  | exc c fs G1 => rw [q] at h; exact fun d vfs ρ' H' p s S' e1 e2 => h d vfs ρ' H' p s S' e1 e2
  | bad => rw [q] at h; exact h
theorem wk_rng {K : KZ} {ρ : List Addr} {H : Hp} {lo : Int} {n m : Nat} : Wk K ρ H (.live m fun i _ => some (if i < n then some (.int (lo + (i : Nat))) else none)) (Itr lo n) := by
  intro ρ' H' G i p s S
  show match some (if i < n then some (U.int (lo + (i : Nat))) else none) with
    | none => True
    | some none => (Itr lo n).stop i H'
    | some (some u) => (Itr lo n).go i H' ∧ ∀ x H'', (Itr lo n).yld i H' x H'' → Stb K H' H'' ∧ Sim K ρ' G H'' ∧ RU K ρ' H'' u x
  by_cases hi : i < n
  · rw [if_pos hi]
    refine ⟨hi, fun x H'' y => ?_⟩
    obtain ⟨rfl, rfl⟩ := y
    exact ⟨Stb.refl, S, .int _⟩
  · rw [if_neg hi]; exact Nat.le_of_not_lt hi
theorem RUs.one {K : KZ} {ρ : List Addr} {H : Hp} {x : U} {vs : List V} (r : RUs K ρ H [x] vs) : ∃ v, vs = [v] ∧ RU K ρ H x v := by
  cases r with
  | cons h t => cases t; exact ⟨_, rfl, h⟩
theorem RUs.two {K : KZ} {ρ : List Addr} {H : Hp} {x y : U} {vs : List V} (r : RUs K ρ H [x, y] vs) : ∃ v w, vs = [v, w] ∧ RU K ρ H x v ∧ RU K ρ H y w := by
  cases r with
  | cons h t => obtain ⟨w, rfl, h2⟩ := t.one; exact ⟨_, _, rfl, h, h2⟩
theorem fir1 {a : Expr} {fa : Ev → Gp → R (List U)} {p : Pos} (hg : Gl X "range") (hm : X.mg "range" = none) (ha : FA X Z W [a] fa) (hs : starEach [a] X.env = [(false, eval a X.env)] := by rfl) : FI X Z W tg (.Call (.Name "range" p) [a] [] pos) (iOfs fa kRng1) := by
  refine PIimp (pi_range1 hg hm ha hs) fun σ H Q h => ?_
  refine tG_mono (iSteps h) fun vs H1 ⟨ρ1, G1, us, src, S1, r1, hk, q⟩ => ?_
  unfold kRng1 at hk
  split at hk
  · rename_i j
    split at hk
    · rename_i hj
      cases hk
      obtain ⟨v, rfl, rv⟩ := r1.one
      cases rv
      exact ⟨j, rfl, hj.1, hj.2, q _ wk_rng⟩
    · exact nomatch hk
  · exact nomatch hk
theorem fir2 {a b : Expr} {fa : Ev → Gp → R (List U)} {p : Pos} (hg : Gl X "range") (hm : X.mg "range" = none) (ha : FA X Z W [a, b] fa) (hs : starEach [a, b] X.env = [(false, eval a X.env), (false, eval b X.env)] := by rfl) (hs2 : starEach [b] X.env = [(false, eval b X.env)] := by rfl) :
    FI X Z W tg (.Call (.Name "range" p) [a, b] [] pos) (iOfs fa kRng2) := by
  refine PIimp (pi_range2 hg hm ha hs hs2) fun σ H Q h => ?_
  refine tG_mono (iSteps h) fun vs H1 ⟨ρ1, G1, us, src, S1, r1, hk, q⟩ => ?_
  unfold kRng2 at hk
  split at hk
  · rename_i i j
    split at hk
    · rename_i hj
      cases hk
      obtain ⟨v, w, rfl, rv, rw'⟩ := r1.two
      cases rv
      cases rw'
      exact ⟨i, j, rfl, hj, q _ wk_rng⟩
    · exact nomatch hk
  · exact nomatch hk
end

/-! ### for, while -/
def forN (nth : Nat → Gp → Option (Option U)) (gf : U → Ev → Gp → R Ev) (body : Ev → Gp → SR) : Nat → Nat → Ev → Gp → SR
  | 0, _, _, _ => .bad
  | n + 1, i, env, G => match nth i G with
    | none => .bad
    | some none => .nx env G
    | some (some u) => (gf u env G).andThen env fun env1 G1 => match body env1 G1 with
      | .nx env' G' => forN nth gf body n (i + 1) env' G'
      | .ct env' G' => forN nth gf body n (i + 1) env' G'
      | .brk env' G' => .nx env' G'
      | r => r
/-- over written items -/
def forL (gf : U → Ev → Gp → R Ev) (body : Ev → Gp → SR) : List U → Ev → Gp → SR
  | [], env, G => .nx env G
  | u :: us, env, G => (gf u env G).andThen env fun env1 G1 => match body env1 G1 with
    | .nx env' G' => forL gf body us env' G'
    | .ct env' G' => forL gf body us env' G'
    | .brk env' G' => .nx env' G'
    | r => r
def sFor (fi : Ev → Gp → R Src) (gf : U → Ev → Gp → R Ev) (body : Ev → Gp → SR) : Ev → Gp → SR := fun env G => (fi env G).andThen env fun src G1 => match src with
  | .items xs => forL gf body xs env G1
  | .live n nth => forN nth gf body n 0 env G1
theorem forL_drop {gf : U → Ev → Gp → R Ev} {body : Ev → Gp → SR} {xs : List U} : ∀ (m i : Nat) (env : Ev) (G : Gp), m = xs.length + 1 - i → i ≤ xs.length → forN (fun i _ => some xs[i]?) gf body m i env G = forL gf body (xs.drop i) env G := by
  intro m
  induction m with
  | zero => intro i env G h1 h2; omega
  | succ m ih =>
    intro i env G h1 h2
    by_cases hi : i < xs.length
    · have e : xs.drop i = xs[i] :: xs.drop (i + 1) := List.drop_eq_getElem_cons hi
      rw [e]
      show (match some xs[i]? with
        | none => SR.bad
        | some none => .nx env G
        | some (some u) => _) = _
      rw [List.getElem?_eq_getElem hi]
      show (gf xs[i] env G).andThen env _ = (gf xs[i] env G).andThen env _
      congr 1
      funext env1 G1
      cases q : body env1 G1 with
      | nx env' G' => exact ih (i + 1) env' G' (by omega) hi
      | ct env' G' => exact ih (i + 1) env' G' (by omega) hi
      | _ => rfl
    · have e : i = xs.length := by omega
      subst e
      rw [List.drop_length]
      show (match some xs[xs.length]? with
        | none => SR.bad
        | some none => .nx env G
        | some (some u) => _) = _
      rw [List.getElem?_eq_none (Nat.le_refl _)]
      rfl
def Src.nth (s : Src) : Nat → Gp → Option (Option U) := fun i G => s.at_ i G
theorem sFor_run {src : Src} {gf : U → Ev → Gp → R Ev} {body : Ev → Gp → SR} {env : Ev} {G1 : Gp} : (match src with
  | .items xs => forL gf body xs env G1
  | .live n nth => forN nth gf body n 0 env G1) = forN src.nth gf body src.fuel 0 env G1 := by
  cases src with
  | items xs =>
    show forL gf body xs env G1 = forN (fun i _ => some xs[i]?) gf body (xs.length + 1) 0 env G1
    rw [forL_drop (xs.length + 1) 0 env G1 (by omega) (Nat.zero_le _)]
    rfl
  | live n nth => rfl
section
variable {X : Cx} {Z : ZZ X.K} {W : WX} {tg e c : Expr} {body : List Stmt} {fi : Ev → Gp → R Src} {gf : U → Ev → Gp → R Ev} {g : Ev → Gp → SR} {fc : Ev → Gp → R Bool} {pos : Pos}
theorem fsfor (hp : PassesOwn (model X.prog X.w) X.A X.env X.xe) (hc : X.calm = true) (hi : FI X Z W tg e fi) (hg : FG X Z tg gf) (nx : NoX gf) (hb : FSs X Z W body g) (hs : ∀ x, foldedSetIterable e X.env x = pure x := by intro _; rfl) :
    FS X Z W (.For tg e body [] pos) (sFor fi gf g) := by
  refine PSimp (ps_for hp hc hi hg hb hs) fun D σ H ⟨ρ, G, env, S, e, h⟩ => ?_
  refine ⟨ρ, G, env, S, e, ?_⟩
  unfold sFor at h
  cases q : fi env G with
  | bad => rw [q] at h; exact h
  | exc c fs G1 => rw [q] at h; exact fun d vfs ρ' H' p s S' e1 e2 => h σ d vfs ρ' H' p s S' (e.mono p s) e1 e2
  | ok src G1 =>
    rw [q] at h
    have h : PostS (kz X Z) ρ H (forN src.nth gf g src.fuel 0 env G1) D W := by rw [← sFor_run]; exact h
    intro ρ1 H1 J p1 s1 S1 wk
    refine ⟨fun i m σ H => ∃ ρ2 G2 env2, ρ1 <+: ρ2 ∧ Stb (kz X Z) H1 H ∧ Sim (kz X Z) ρ2 G2 H ∧ REq (kz X Z) ρ2 H env2 σ ∧ PostS (kz X Z) ρ2 H (forN src.nth gf g m i env2 G2) D W, ⟨src.fuel, ρ1, G1, env, pre_refl, Stb.refl, S1, e.mono p1 s1, h.lift p1 s1⟩, ?_⟩
    rintro i m σ2 H2 ⟨ρ2, G2, env2, p2, s2, S2, e2, h2⟩
    cases m with
    | zero => exact h2.elim
    | succ m =>
      have w := wk ρ2 H2 G2 i p2 s2 S2
      unfold forN at h2
      have en : src.nth i G2 = src.at_ i G2 := rfl
      rw [en] at h2
      cases qn : src.at_ i G2 with
      | none => rw [qn] at h2; exact h2.elim
      | some o =>
        rw [qn] at h2 w
        cases o with
        | none => exact .inl ⟨w, h2.nx_ S2 e2⟩
        | some u =>
          refine .inr ⟨w.1, fun σ' H' => ∃ ρ3 G3 env3, ρ1 <+: ρ3 ∧ Stb (kz X Z) H1 H' ∧ Sim (kz X Z) ρ3 G3 H' ∧ REq (kz X Z) ρ3 H' env3 σ' ∧ PostS (kz X Z) ρ3 H' (forN src.nth gf g m (i + 1) env3 G3) D W, fun σ' H' z => ⟨m, Nat.lt_succ_self m, z⟩, fun x H3 y => ?_⟩
          obtain ⟨s3, S3, rx⟩ := w.2 x H3 y
          have h3 := h2.lift pre_refl s3
          refine ⟨ρ2, G2, env2, u, S3, e2.mono pre_refl s3, rx, ?_⟩
          have h3 : PostS (kz X Z) ρ2 H3 ((gf u env2 G2).andThen env2 fun env1 G1 => match g env1 G1 with
            | .nx env' G' => forN src.nth gf g m (i + 1) env' G'
            | .ct env' G' => forN src.nth gf g m (i + 1) env' G'
            | .brk env' G' => .nx env' G'
            | r => r) D W := h3
          cases qg : gf u env2 G2 with
          | bad => rw [qg] at h3; exact h3
          | exc c fs G' => exact absurd qg (nx u env2 G2 c fs G')
          | ok env3 G3 =>
            rw [qg] at h3
            intro σ4 ρ4 H4 p4 s4 S4 e4
            refine ⟨ρ4, G3, env3, S4, e4, ?_⟩
            have h4 : PostS (kz X Z) ρ4 H4 (match g env3 G3 with
              | .nx env' G' => forN src.nth gf g m (i + 1) env' G'
              | .ct env' G' => forN src.nth gf g m (i + 1) env' G'
              | .brk env' G' => .nx env' G'
              | r => r) D W := h3.lift p4 s4
            have pp : ρ1 <+: ρ4 := p2.trans p4
            have ss : Stb (kz X Z) H1 H4 := (s2.trans s3).trans s4
            cases qb : g env3 G3 with
            | nx env' G' => rw [qb] at h4; exact fun σ' ρ' H' p s S' e' => ⟨ρ', G', env', pp.trans p, ss.trans s, S', e', h4.lift p s⟩
            | ct env' G' => rw [qb] at h4; exact fun σ' ρ' H' p s S' e' => ⟨ρ', G', env', pp.trans p, ss.trans s, S', e', h4.lift p s⟩
            | brk env' G' => rw [qb] at h4; exact fun σ' ρ' H' p s S' e' => h4 σ' ρ' H' p s S' e'
            | ret u G' => rw [qb] at h4; exact h4
            | exc c fs env' G' => rw [qb] at h4; exact h4
            | bad => rw [qb] at h4; exact h4
end
/-- while: n bounds the turns -/
def whileN (fc : Ev → Gp → R Bool) (body : Ev → Gp → SR) : Nat → Ev → Gp → SR
  | 0, _, _ => .bad
  | n + 1, env, G => (fc env G).andThen env fun b G1 => if b = true then (match body env G1 with
      | .nx env' G' => whileN fc body n env' G'
      | .ct env' G' => whileN fc body n env' G'
      | .brk env' G' => .nx env' G'
      | r => r) else .nx env G1
section
variable {X : Cx} {Z : ZZ X.K} {W : WX} {c : Expr} {body : List Stmt} {g : Ev → Gp → SR} {fc : Ev → Gp → R Bool} {pos : Pos}
theorem fswhile (n : Nat) (hp : PassesOwn (model X.prog X.w) X.A X.env X.xe) (hc : FT X Z W c fc) (hb : FSs X Z W body g) : FS X Z W (.While c body [] pos) (whileN fc g n) := by
  refine PSimp (ps_while hp hc hb) fun D σ H ⟨ρ, G, env, S, e, h⟩ => ?_
  refine ⟨fun m σ' H' => ∃ ρ2 G2 env2, ρ <+: ρ2 ∧ Stb (kz X Z) H H' ∧ Sim (kz X Z) ρ2 G2 H' ∧ REq (kz X Z) ρ2 H' env2 σ' ∧ PostS (kz X Z) ρ2 H' (whileN fc g m env2 G2) D W, ⟨n, ρ, G, env, pre_refl, Stb.refl, S, e, h⟩, ?_⟩
  rintro m σ2 H2 ⟨ρ2, G2, env2, p2, s2, S2, e2, h2⟩
  cases m with
  | zero => exact h2.elim
  | succ m =>
    unfold whileN at h2
    refine tG_mono (stepS (rel := fun _ _ a b => a = b) S2 e2 h2) fun b H3 ⟨ρ3, G3, x, p3, s3, S3, e3, r3, h3⟩ => ?_
    subst r3
    cases x with
    | false => exact h3.nx_ S3 e3
    | true =>
      rw [if_pos rfl]
      have h3 : PostS (kz X Z) ρ3 H3 (match g env2 G3 with
        | .nx env' G' => whileN fc g m env' G'
        | .ct env' G' => whileN fc g m env' G'
        | .brk env' G' => .nx env' G'
        | r => r) D W := h3
      refine ⟨fun σ' H' => ∃ ρ4 G4 env4, ρ <+: ρ4 ∧ Stb (kz X Z) H H' ∧ Sim (kz X Z) ρ4 G4 H' ∧ REq (kz X Z) ρ4 H' env4 σ' ∧ PostS (kz X Z) ρ4 H' (whileN fc g m env4 G4) D W, fun σ' H' z => ⟨m, Nat.lt_succ_self m, z⟩, ρ3, G3, env2, S3, e3, ?_⟩
      have pp : ρ <+: ρ3 := p2.trans p3
      have ss : Stb (kz X Z) H H3 := s2.trans s3
      cases qb : g env2 G3 with
      | nx env' G' => rw [qb] at h3; exact fun σ' ρ' H' p s S' e' => ⟨ρ', G', env', pp.trans p, ss.trans s, S', e', h3.lift p s⟩
      | ct env' G' => rw [qb] at h3; exact fun σ' ρ' H' p s S' e' => ⟨ρ', G', env', pp.trans p, ss.trans s, S', e', h3.lift p s⟩
      | brk env' G' => rw [qb] at h3; exact fun σ' ρ' H' p s S' e' => h3 σ' ρ' H' p s S' e'
      | ret u G' => rw [qb] at h3; exact h3
      | exc c fs env' G' => rw [qb] at h3; exact h3
      | bad => rw [qb] at h3; exact h3
end
end FL

set_option Elab.async false
set_option linter.all false
set_option maxRecDepth 100000
set_option maxHeartbeats 4000000
set_option autoImplicit false
namespace FL
open PySem PySem.Spec L2

/-! ### ints -/
def mulOk (i j : Int) : Bool := decide (i.natAbs < 2 ^ 64) || decide (j.natAbs < 2 ^ 64) || decide (Builtin.Int.intBits i + Builtin.Int.intBits j ≤ 134217728)
def gAdd (x y : U) (G : Gp) : R U := match x, y with
  | .int i, .int j => .ok (.int (i + j)) G
  | .str a, .str b => if a.length + b.length ≤ 16777216 then .ok (.str (a ++ b)) G else .bad
  | .tup a, .tup b => if a.length + b.length ≤ 16777216 then .ok (.tup (a ++ b)) G else .bad
  | .ref l, .ref m => match G[l]?, G[m]? with
    | some (.lst a), some (.lst b) => if a.length + b.length ≤ 16777216 then .ok (.ref G.length) (G ++ [.lst (a ++ b)]) else .bad
    | _, _ => .bad
  | _, _ => .bad
def gSub (x y : U) (G : Gp) : R U := match x, y with
  | .int i, .int j => .ok (.int (i - j)) G
  | _, _ => .bad
def gMul (x y : U) (G : Gp) : R U := match x, y with
  | .int i, .int j => if mulOk i j = true then .ok (.int (i * j)) G else .bad
  | .ref l, .int k => match G[l]? with
    | some (.lst a) => if -(2 ^ 63) ≤ k ∧ k < 2 ^ 63 ∧ a.length * k.toNat ≤ 16777216 then .ok (.ref G.length) (G ++ [.lst (List.replicate k.toNat a).flatten]) else .bad
    | _ => .bad
  | _, _ => .bad
def gFdiv (x y : U) (G : Gp) : R U := match x, y with
  | .int i, .int j => if 0 < j ∧ j.natAbs < 2 ^ 1000 then .ok (.int (i / j)) G else .bad
  | _, _ => .bad
def gMod (x y : U) (G : Gp) : R U := match x, y with
  | .int i, .int j => if 0 < j then .ok (.int (i % j)) G else .bad
  | _, _ => .bad
def gPow (x y : U) (G : Gp) : R U := match x, y with
  | .int i, .int j => if 0 ≤ j ∧ j ≤ 1000000 ∧ i.natAbs < 2 ^ 64 then .ok (.int (i ^ j.toNat)) G else .bad
  | _, _ => .bad
def gNeg (x : U) (G : Gp) : R U := match x with
  | .int i => .ok (.int (-i)) G
  | _ => .bad
section
variable {K : KZ}
theorem natAbs_64 {i : Int} (h : i.natAbs < 2 ^ 64) : -(2 ^ 64) < i ∧ i < 2 ^ 64 := by
  have e : (2 : Nat) ^ 64 = 18446744073709551616 := by decide
  have e2 : (2 : Int) ^ 64 = 18446744073709551616 := by decide
  rw [e] at h
  rw [e2]
  omega
def rAddA (K : PySem.W.Frag) : R2 := fun x y H Q => (((rI0 fun i j => .int (i + j)) x y H Q ∨ (∃ i j, x = .str i ∧ y = .str j ∧ i.length + j.length ≤ sizeLine ∧ Q (.str (i ++ j)) H)) ∨ rCatA K x y H Q) ∨ rCat x y H Q
theorem orAdd {X : Cx} : OpR X (binaryOp .Add) (rAddA X.K) := ((op_add.or op_add_str).or op_catA).or op_cat
theorem o2Add : Op2 K (rAddA K.K) gAdd := by
  intro ρ G H x y v w Q E S rx ry h
  cases rx with
  | int i =>
    cases ry with
    | int j => exact .inl (.inl (.inl ⟨i, j, rfl, rfl, h.end_ S (.int _)⟩))
    | _ => exact h.elim
  | str a =>
    cases ry with
    | str b =>
      unfold gAdd at h
      simp only at h
      by_cases hl : a.length + b.length ≤ 16777216
      · rw [if_pos hl] at h
        exact .inl (.inl (.inr ⟨a, b, rfl, rfl, by rw [line_eq]; exact hl, h.end_ S (.str _)⟩))
      · rw [if_neg hl] at h; exact h.elim
    | _ => exact h.elim
  | @tup xs vs p hp hr =>
    cases ry with
    | @tup ys ws q hq hs =>
      unfold gAdd at h
      simp only at h
      by_cases hl : xs.length + ys.length ≤ 16777216
      · rw [if_pos hl] at h
        refine .inl (.inr ⟨p, q, vs, ws, rfl, rfl, hp.sq, hq.sq, by rw [← hr.len, ← hs.len, line_eq]; exact hl, fun e => ?_, fun _ e => ?_, fun _ _ => newTup S (hr.append hs) h⟩)
        · subst e
          cases hr
          exact h.end_ S (.tup hq hs)
        · subst e
          cases hs
          rw [List.append_nil] at h
          exact h.end_ S (.tup hp hr)
      · rw [if_neg hl] at h; exact h.elim
    | _ => exact h.elim
  | @ref l p hp =>
    cases ry with
    | @ref m q hq =>
      unfold gAdd at h
      simp only at h
      cases e1 : G[l]? with
      | none => simp only [e1] at h; exact h.elim
      | some o1 =>
        cases e2 : G[m]? with
        | none => simp only [e1, e2] at h; cases o1 <;> exact h.elim
        | some o2 =>
          simp only [e1, e2] at h
          cases o1 with
          | lst a =>
            cases o2 with
            | lst b =>
              simp only at h
              by_cases hl : a.length + b.length ≤ 16777216
              · rw [if_pos hl] at h
                obtain ⟨vs, h1, r1⟩ := S.list hp e1
                obtain ⟨ws, h2, r2⟩ := S.list hq e2
                exact .inr ⟨p, q, vs, ws, rfl, rfl, h1, h2, by rw [← r1.len, ← r2.len, line_eq]; exact hl, newLst S (r1.append r2) h⟩
              · rw [if_neg hl] at h; exact h.elim
            | _ => exact h.elim
          | _ => exact h.elim
    | _ => exact h.elim
  | _ => exact h.elim
theorem o2Sub : Op2 K (rI0 fun i j => .int (i - j)) gSub := by
  intro ρ G H x y v w Q E S rx ry h
  cases rx with
  | int i =>
    cases ry with
    | int j => exact ⟨i, j, rfl, rfl, h.end_ S (.int _)⟩
    | _ => exact h.elim
  | _ => exact h.elim
def rMulA : R2 := fun x y H Q => (rI CMul (fun i j => .int (i * j)) x y H Q ∨ rI CMulX (fun i j => .int (i * j)) x y H Q) ∨ rRep x y H Q
theorem orMul {X : Cx} : OpR X (binaryOp .Mult) rMulA := (op_mul.or op_mulX).or op_rep
theorem flatten_rel {ρ : List Addr} {H : Hp} {a : List U} {vs : List V} (r : RUs K ρ H a vs) : ∀ n : Nat, RUs K ρ H (List.replicate n a).flatten (List.replicate n vs).flatten
  | 0 => .nil
  | n + 1 => by
    rw [List.replicate_succ, List.replicate_succ, List.flatten_cons, List.flatten_cons]
    exact r.append (flatten_rel r n)
theorem o2Mul : Op2 K rMulA gMul := by
  intro ρ G H x y v w Q E S rx ry h
  cases rx with
  | int i =>
    cases ry with
    | int j =>
      unfold gMul at h
      simp only at h
      by_cases hm : mulOk i j = true
      · rw [if_pos hm] at h
        have q := h.end_ S (.int _)
        unfold mulOk at hm
        rw [Bool.or_eq_true, Bool.or_eq_true] at hm
        rcases hm with (hm | hm) | hm
        · exact .inl (.inl ⟨i, j, rfl, rfl, .inl (natAbs_64 (of_decide_eq_true hm)), q⟩)
        · exact .inl (.inl ⟨i, j, rfl, rfl, .inr (natAbs_64 (of_decide_eq_true hm)), q⟩)
        · exact .inl (.inr ⟨i, j, rfl, rfl, by have := of_decide_eq_true hm; unfold CMulX; omega, q⟩)
      · rw [if_neg hm] at h; exact h.elim
    | _ => exact h.elim
  | @ref l p hp =>
    cases ry with
    | int k =>
      unfold gMul at h
      simp only at h
      cases e1 : G[l]? with
      | none => simp only [e1] at h; exact h.elim
      | some o1 =>
        simp only [e1] at h
        cases o1 with
        | lst a =>
          simp only at h
          by_cases hk : -(2 ^ 63) ≤ k ∧ k < 2 ^ 63 ∧ a.length * k.toNat ≤ 16777216
          · rw [if_pos hk] at h
            obtain ⟨vs, h1, r1⟩ := S.list hp e1
            exact .inr ⟨p, k, vs, rfl, rfl, h1, hk.1, hk.2.1, by rw [← r1.len, line_eq]; exact hk.2.2, newLst S (flatten_rel r1 _) h⟩
          · rw [if_neg hk] at h; exact h.elim
        | _ => exact h.elim
    | _ => exact h.elim
  | _ => exact h.elim
theorem o2Fdiv : Op2 K (rI CDivW fun i j => .int (i / j)) gFdiv := by
  intro ρ G H x y v w Q E S rx ry h
  cases rx with
  | int i =>
    cases ry with
    | int j =>
      unfold gFdiv at h
      simp only at h
      by_cases hj : 0 < j ∧ j.natAbs < 2 ^ 1000
      · rw [if_pos hj] at h
        exact ⟨i, j, rfl, rfl, wide_div hj.1 hj.2 (by decide) (by decide), h.end_ S (.int _)⟩
      · rw [if_neg hj] at h; exact h.elim
    | _ => exact h.elim
  | _ => exact h.elim
theorem o2Mod : Op2 K (rI (fun _ j => 0 < j) fun i j => .int (i % j)) gMod := by
  intro ρ G H x y v w Q E S rx ry h
  cases rx with
  | int i =>
    cases ry with
    | int j =>
      unfold gMod at h
      simp only at h
      by_cases hj : 0 < j
      · rw [if_pos hj] at h
        exact ⟨i, j, rfl, rfl, hj, h.end_ S (.int _)⟩
      · rw [if_neg hj] at h; exact h.elim
    | _ => exact h.elim
  | _ => exact h.elim
theorem o2Pow : Op2 K (rI CPow fun i j => .int (i ^ j.toNat)) gPow := by
  intro ρ G H x y v w Q E S rx ry h
  cases rx with
  | int i =>
    cases ry with
    | int j =>
      unfold gPow at h
      simp only at h
      by_cases hj : 0 ≤ j ∧ j ≤ 1000000 ∧ i.natAbs < 2 ^ 64
      · rw [if_pos hj] at h
        exact ⟨i, j, rfl, rfl, hj, h.end_ S (.int _)⟩
      · rw [if_neg hj] at h; exact h.elim
    | _ => exact h.elim
  | _ => exact h.elim
theorem o1Neg : Op1 K (rU fun i => .int (-i)) gNeg := by
  intro ρ G H x v Q E S rx h
  cases rx with
  | int i => exact ⟨i, rfl, h.end_ S (.int _)⟩
  | _ => exact h.elim
end
section
variable {X : Cx} {Z : ZZ X.K} {W : WX} {a b : Expr} {fa fb : Ev → Gp → R U} {pos : Pos}
theorem fadd (ha : FE X Z W a fa) (hb : FE X Z W b fb) : FE X Z W (.BinOp a .Add b pos) (eBin gAdd fa fb) := fop o2Add orAdd ha hb
theorem fsub (ha : FE X Z W a fa) (hb : FE X Z W b fb) : FE X Z W (.BinOp a .Sub b pos) (eBin gSub fa fb) := fop o2Sub op_sub ha hb
theorem fmul (ha : FE X Z W a fa) (hb : FE X Z W b fb) : FE X Z W (.BinOp a .Mult b pos) (eBin gMul fa fb) := fop o2Mul orMul ha hb
theorem ffdiv (ha : FE X Z W a fa) (hb : FE X Z W b fb) : FE X Z W (.BinOp a .FloorDiv b pos) (eBin gFdiv fa fb) := fop o2Fdiv op_fdivW ha hb
theorem fmod (ha : FE X Z W a fa) (hb : FE X Z W b fb) : FE X Z W (.BinOp a .Mod b pos) (eBin gMod fa fb) := fop o2Mod op_mod ha hb
theorem fpow (ha : FE X Z W a fa) (hb : FE X Z W b fb) : FE X Z W (.BinOp a .Pow b pos) (eBin gPow fa fb) := fop o2Pow op_pow ha hb
theorem fneg (ha : FE X Z W a fa) : FE X Z W (.UnaryOp .USub a pos) (eUn gNeg fa) := fun1 o1Neg un_neg ha
end

/-! ### comparisons -/
def gCmpI (p : Int → Int → Bool) (x y : U) (G : Gp) : R U := match x, y with
  | .int i, .int j => .ok (.bl (p i j)) G
  | _, _ => .bad
def scalEq : U → U → Option Bool
  | .non, .non => some true | .non, .int _ => some false | .int _, .non => some false | .non, .bl _ => some false | .bl _, .non => some false | .non, .str _ => some false | .str _, .non => some false
  | .int i, .int j => some (decide (i = j)) | .bl i, .bl j => some (decide (i = j)) | .str i, .str j => some (decide (i = j))
  | .int _, .str _ => some false | .str _, .int _ => some false | .bl _, .str _ => some false | .str _, .bl _ => some false
  | _, _ => none
def optAll {α β : Type} (f : α → Option β) : List α → Option (List β)
  | [] => some []
  | x :: xs => match f x, optAll f xs with
    | some y, some ys => some (y :: ys)
    | _, _ => none
def toD (G : Gp) : Nat → U → Option PyData
  | _, .non => some .none
  | _, .bl b => some (.bool b)
  | _, .int i => some (.int i)
  | _, .str x => some (.str x)
  | 0, _ => none
  | n + 1, .tup xs => (optAll (toD G n) xs).map .tuple
  | n + 1, .rl xs => (optAll (toD G n) xs).map .list
  | n + 1, .wt xs => (optAll (toD G n) xs).map .tuple
  | n + 1, .ref l => match G[l]? with
    | some (.lst xs) => (optAll (toD G n) xs).map .list
    | _ => none
def eqU (G : Gp) (x y : U) : Option Bool := match scalEq x y with
  | some b => some b
  | none => match toD G 40 x, toD G 40 y with
    | some d, some e => if SeqAt.shaped d = true ∧ SeqAt.shaped e = true then some (PyData.eqv d e) else none
    | _, _ => none
def gEq (x y : U) (G : Gp) : R U := match eqU G x y with
  | some b => .ok (.bl b) G
  | none => .bad
def gNe (x y : U) (G : Gp) : R U := match eqU G x y with
  | some b => .ok (.bl (!b)) G
  | none => .bad
section
variable {K : KZ} {ρ : List Addr} {G : Gp} {H : Hp}
theorem o2CmpI {p : Int → Int → Bool} : Op2 K (rI0 fun i j => .bl (p i j)) (gCmpI p) := by
  intro ρ G H x y v w Q E S rx ry h
  cases rx with
  | int i =>
    cases ry with
    | int j => exact ⟨i, j, rfl, rfl, h.end_ S (.bl _)⟩
    | _ => exact h.elim
  | _ => exact h.elim
theorem scalEq_ok {x y : U} {v w : V} (rx : RU K ρ H x v) (ry : RU K ρ H y w) {b : Bool} (h : scalEq x y = some b) : scal v w = true ∧ decide (v = w) = b := by
  cases rx <;> cases ry <;> first
    | (cases h; done)
    | (cases h; exact ⟨rfl, rfl⟩)
    | (cases h; refine ⟨rfl, ?_⟩; simp)
theorem optAll_ok {f : U → Option PyData} (hf : ∀ x v d, RU K ρ H x v → f x = some d → Dp K.K H v d) : ∀ {xs : List U} {vs : List V} {ds : List PyData}, RUs K ρ H xs vs → optAll f xs = some ds → DpAll K.K H vs ds
  | _, _, ds, .nil, h => by cases h; exact .nil
  | _, _, ds, .cons (x := x) (xs := xs) hx ht, h => by
    unfold optAll at h
    cases e1 : f x with
    | none => rw [e1] at h; exact nomatch h
    | some y =>
      cases e2 : optAll f xs with
      | none => rw [e1, e2] at h; exact nomatch h
      | some ys => rw [e1, e2] at h; cases h; exact .cons (hf _ _ _ hx e1) (optAll_ok hf ht e2)
theorem toD_ok (S : Sim K ρ G H) : ∀ (n : Nat) (x : U) (v : V) (d : PyData), RU K ρ H x v → toD G n x = some d → Dp K.K H v d := by
  intro n
  induction n with
  | zero =>
    intro x v d r h
    cases r <;> first
      | (cases h; done)
      | (cases h; constructor)
  | succ n ih =>
    intro x v d r h
    cases r with
    | tup hp hr =>
      unfold toD at h
      cases e : optAll (toD G n) _ with
      | none => rw [e] at h; exact nomatch h
      | some ds => rw [e] at h; cases h; exact .tup hp.sq (optAll_ok ih hr e)
    | wt hp hr =>
      unfold toD at h
      cases e : optAll (toD G n) _ with
      | none => rw [e] at h; exact nomatch h
      | some ds => rw [e] at h; cases h; exact .tup hp.sq (optAll_ok ih hr e)
    | rl hp hr =>
      unfold toD at h
      cases e : optAll (toD G n) _ with
      | none => rw [e] at h; exact nomatch h
      | some ds => rw [e] at h; cases h; exact .lst hp.sq (optAll_ok ih hr e)
    | @ref l a ha =>
      unfold toD at h
      cases q : G[l]? with
      | none => rw [q] at h; exact nomatch h
      | some o =>
        rw [q] at h
        cases o with
        | lst xs =>
          simp only at h
          obtain ⟨vs, e1, r1⟩ := S.list ha q
          cases e : optAll (toD G n) xs with
          | none => rw [e] at h; exact nomatch h
          | some ds => rw [e] at h; cases h; exact .lst (SqL.of e1) (optAll_ok ih r1 e)
        | _ => exact nomatch h
    | _ => cases h; constructor
def rEqA (K : PySem.W.Frag) : R2 := fun x y H Q => rEq x y H Q ∨ rEqD K x y H Q
def rNeA (K : PySem.W.Frag) : R2 := fun x y H Q => rNe x y H Q ∨ rNeD K x y H Q
theorem orEq {X : Cx} (hu : X.A.units + 64 < cLine) : OpR X (compareOp .Eq) (rEqA X.K) := op_eq.or (op_eqD hu)
theorem orNe {X : Cx} (hu : X.A.units + 64 < cLine) : OpR X (compareOp .NotEq) (rNeA X.K) := op_ne.or (op_neD hu)
theorem eqU_ok (S : Sim K ρ G H) {x y : U} {v w : V} (rx : RU K ρ H x v) (ry : RU K ρ H y w) {b : Bool} (h : eqU G x y = some b) :
    (scal v w = true ∧ decide (v = w) = b) ∨ ∃ d e, Dp K.K H v d ∧ Dp K.K H w e ∧ SeqAt.shaped d = true ∧ SeqAt.shaped e = true ∧ PyData.eqv d e = b := by
  unfold eqU at h
  cases q : scalEq x y with
  | some c => rw [q] at h; cases h; exact .inl (scalEq_ok rx ry q)
  | none =>
    rw [q] at h
    simp only at h
    cases e1 : toD G 40 x with
    | none => rw [e1] at h; exact nomatch h
    | some d =>
      cases e2 : toD G 40 y with
      | none => rw [e1, e2] at h; exact nomatch h
      | some e =>
        rw [e1, e2] at h
        simp only at h
        by_cases hs : SeqAt.shaped d = true ∧ SeqAt.shaped e = true
        · rw [if_pos hs] at h
          cases h
          exact .inr ⟨d, e, toD_ok S _ _ _ _ rx e1, toD_ok S _ _ _ _ ry e2, hs.1, hs.2, rfl⟩
        · rw [if_neg hs] at h; exact nomatch h
theorem o2Eq : Op2 K (rEqA K.K) gEq := by
  intro ρ G H x y v w Q E S rx ry h
  unfold gEq at h
  cases q : eqU G x y with
  | none => rw [q] at h; exact h.elim
  | some b =>
    rw [q] at h
    have e := h.end_ S (.bl b)
    rcases eqU_ok S rx ry q with ⟨h1, h2⟩ | ⟨d, d', h1, h2, h3, h4, h5⟩
    · exact .inl ⟨h1, by rw [h2]; exact e⟩
    · exact .inr ⟨d, d', h1, h2, h3, h4, by rw [h5]; exact e⟩
theorem o2Ne : Op2 K (rNeA K.K) gNe := by
  intro ρ G H x y v w Q E S rx ry h
  unfold gNe at h
  cases q : eqU G x y with
  | none => rw [q] at h; exact h.elim
  | some b =>
    rw [q] at h
    have e := h.end_ S (.bl (!b))
    rcases eqU_ok S rx ry q with ⟨h1, h2⟩ | ⟨d, d', h1, h2, h3, h4, h5⟩
    · exact .inl ⟨h1, by rw [h2]; exact e⟩
    · exact .inr ⟨d, d', h1, h2, h3, h4, by rw [h5]; exact e⟩
/-! is None -/
def gIsN (x y : U) (G : Gp) : R U := match y with
  | .non => .ok (.bl (match x with
    | .non => true
    | _ => false)) G
  | _ => .bad
def gNotN (x y : U) (G : Gp) : R U := match y with
  | .non => .ok (.bl (match x with
    | .non => false
    | _ => true)) G
  | _ => .bad
theorem o2IsN : Op2 K (fun x y H Q => y = .non ∧ Q (.bl (decide (x = .non))) H) gIsN := by
  intro ρ G H x y v w Q E S rx ry h
  cases ry with
  | non => cases rx <;> exact ⟨rfl, h.end_ S (.bl _)⟩
  | _ => exact h.elim
theorem o2NotN : Op2 K (fun x y H Q => y = .non ∧ Q (.bl (!decide (x = .non))) H) gNotN := by
  intro ρ G H x y v w Q E S rx ry h
  cases ry with
  | non => cases rx <;> exact ⟨rfl, h.end_ S (.bl _)⟩
  | _ => exact h.elim
/-! in: flat things in a list or a tuple -/
def flatU : U → Bool
  | .non => true | .bl _ => true | .int _ => true | .str _ => true
  | _ => false
def eqF : U → U → Bool
  | .non, .non => true
  | .bl a, .bl b => a == b
  | .bl a, .int b => (if a then 1 else 0) == b
  | .int a, .bl b => a == (if b then 1 else 0)
  | .int a, .int b => a == b
  | .str a, .str b => a == b
  | _, _ => false
def seqU (G : Gp) (u : U) : Option (List U) := match u with
  | .tup xs => some xs
  | .rl xs => some xs
  | .wt xs => some xs
  | .ref l => match G[l]? with
    | some (.lst xs) => some xs
    | _ => none
  | _ => none
def gIn (neg : Bool) (x y : U) (G : Gp) : R U := match seqU G y with
  | some xs => if flatU x = true ∧ xs.all flatU = true then .ok (.bl (if neg then !(xs.any fun y => eqF y x) else xs.any fun y => eqF y x)) G else .bad
  | none => .bad
theorem seqU_ok (S : Sim K ρ G H) {y : U} {w : V} (ry : RU K ρ H y w) {xs : List U} (h : seqU G y = some xs) : ∃ p vs, w = .ref p ∧ (SqL K.K H p vs ∨ SqT K.K H p vs) ∧ RUs K ρ H xs vs := by
  cases ry with
  | tup hp hr => cases h; exact ⟨_, _, rfl, .inr hp.sq, hr⟩
  | rl hp hr => cases h; exact ⟨_, _, rfl, .inl hp.sq, hr⟩
  | wt hp hr => cases h; exact ⟨_, _, rfl, .inr hp.sq, hr⟩
  | @ref l a ha =>
    unfold seqU at h
    simp only at h
    cases q : G[l]? with
    | none => rw [q] at h; exact nomatch h
    | some o =>
      rw [q] at h
      cases o with
      | lst ys =>
        cases h
        obtain ⟨vs, e1, r1⟩ := S.list ha q
        exact ⟨_, _, rfl, .inl (SqL.of e1), r1⟩
      | _ => exact nomatch h
  | _ => exact nomatch h
theorem flat_rel {x : U} {v : V} (r : RU K ρ H x v) (h : flatU x = true) : flatV v = true := by
  cases r <;> first | rfl | (cases h; done)
theorem flats_rel : ∀ {xs : List U} {vs : List V}, RUs K ρ H xs vs → xs.all flatU = true → vs.all flatV = true
  | _, _, .nil, _ => rfl
  | _, _, .cons h t, e => by
    rw [List.all_cons, Bool.and_eq_true] at e ⊢
    exact ⟨flat_rel h e.1, flats_rel t e.2⟩
theorem eqF_rel {x y : U} {v w : V} (rx : RU K ρ H x v) (ry : RU K ρ H y w) (hx : flatU x = true) (hy : flatU y = true) : eqV v w = eqF x y := by
  cases rx <;> first | (cases hx; done) | (cases ry <;> first | rfl | (cases hy; done))
theorem inV_rel {x : U} {v : V} (rx : RU K ρ H x v) (hx : flatU x = true) : ∀ {xs : List U} {vs : List V}, RUs K ρ H xs vs → xs.all flatU = true → inV v vs = xs.any fun y => eqF y x
  | _, _, .nil, _ => rfl
  | _, _, .cons (x := y) (v := w) (xs := ys) (vs := ws) h t, e => by
    rw [List.all_cons, Bool.and_eq_true] at e
    have ih := inV_rel rx hx t e.2
    unfold inV at ih ⊢
    rw [List.any_cons, List.any_cons, ih, eqF_rel h rx e.1 hx]
theorem o2In {neg : Bool} : Op2 K (rIn K.K neg) (gIn neg) := by
  intro ρ G H x y v w Q E S rx ry h
  unfold gIn at h
  cases q : seqU G y with
  | none => rw [q] at h; exact h.elim
  | some xs =>
    rw [q] at h
    simp only at h
    by_cases hf : flatU x = true ∧ xs.all flatU = true
    · rw [if_pos hf] at h
      obtain ⟨p, vs, rfl, hq, hr⟩ := seqU_ok S ry q
      refine ⟨p, vs, rfl, hq, flat_rel rx hf.1, flats_rel hr hf.2, ?_⟩
      rw [inV_rel rx hf.1 hr hf.2]
      exact h.end_ S (.bl _)
    · rw [if_neg hf] at h; exact h.elim
end
section
variable {X : Cx} {Z : ZZ X.K} {W : WX} {a b c : Expr} {fa fb fc : Ev → Gp → R U} {pos : Pos}
/-- the chain a op b op' c -/
def eChain (g g' : U → U → Gp → R U) (fa fb fc : Ev → Gp → R U) : Ev → Gp → R U := fun env G => (fa env G).bind fun x G1 => (fb env G1).bind fun y G2 => (asB (g x y G2)).bind fun k G3 => if k = true then (fc env G3).bind fun z G4 => g' y z G4 else .ok (.bl false) G3
theorem tChain_of {K : KZ} {W : WX} {r r' : R2} {g g' : U → U → Gp → R U} (o : Op2 K r g) (o' : Op2 K r' g') (σ : St) (H : Hp) (Q : VK) (h : tF K W (eChain g g' fa fb fc) σ H Q) : tChain r r' (tF K W fa) (tF K W fb) (tF K W fc) σ H Q := by
  obtain ⟨ρ, G, env, S, e, h⟩ := h
  refine tG_mono (step S e h) fun v H1 ⟨ρ1, G1, x, p1, s1, S1, e1, r1, h1⟩ => tG_mono (step S1 e1 h1) fun w H2 ⟨ρ2, G2, y, p2, s2, S2, e2, r2, h2⟩ => ?_
  refine o ρ2 G2 H2 x y v w _ (fun c d H' => W c d σ H') S2 (r1.mono p2 s2) r2 ?_
  have h2 : Post K (RU K) ρ2 H2 ((asB (g x y G2)).bind fun k G3 => if k = true then (fc env G3).bind fun z G4 => g' y z G4 else .ok (.bl false) G3) Q fun c d H' => W c d σ H' := h2
  cases q : g x y G2 with
  | bad => rw [q] at h2; exact h2
  | exc c fs G3 => rw [q] at h2; exact h2
  | ok u G3 =>
    rw [q] at h2
    intro v3 ρ3 H3 p3 s3 S3 r3
    cases r3 with
    | bl k =>
      refine ⟨k, rfl, ?_⟩
      have h3 : Post K (RU K) ρ3 H3 (if k = true then (fc env G3).bind fun z G4 => g' y z G4 else .ok (.bl false) G3) Q fun c d H' => W c d σ H' := Post.lift h2 p3 s3
      cases k with
      | false => exact h3.end_ S3 (.bl _)
      | true =>
        rw [if_pos rfl]
        rw [if_pos rfl] at h3
        exact tG_mono (step S3 (e2.mono p3 s3) h3) fun w4 H4 ⟨ρ4, G4, z, p4, s4, S4, e4, r4, h4⟩ => o' _ _ _ _ _ _ _ _ _ S4 ((r2.mono p3 s3).mono p4 s4) r4 h4
    | _ => exact h2.elim
theorem fchain {op op' : CmpOp} {r r' : R2} {g g' : U → U → Gp → R U} (o : Op2 (kz X Z) r g) (o' : Op2 (kz X Z) r' g') (ho : OpR X (compareOp op) r) (ho' : OpR X (compareOp op') r') (ha : FE X Z W a fa) (hb : FE X Z W b fb) (hc : FE X Z W c fc)
    (hm : lastMarks [op, op'] [b, c] = false := by with_unfolding_all rfl) : FE X Z W (.Compare a [op, op'] [b, c] pos) (eChain g g' fa fb fc) := PEimp (pe_chain ho ho' ha hb hc hm) (tChain_of o o')
theorem ftchain {op op' : CmpOp} {r r' : R2} {g g' : U → U → Gp → R U} (o : Op2 (kz X Z) r g) (o' : Op2 (kz X Z) r' g') (ho : OpR X (compareOp op) r) (ho' : OpR X (compareOp op') r') (ha : FE X Z W a fa) (hb : FE X Z W b fb) (hc : FE X Z W c fc)
    (hm : lastMarks [op, op'] [b, c] = false := by with_unfolding_all rfl) : FT X Z W (.Compare a [op, op'] [b, c] pos) (bVal (eChain g g' fa fb fc)) := by
  refine PTimp (pt_chain ho ho' ha hb hc hm) fun σ H Q h => ?_
  exact tChain_of o o' σ H _ (tB_of σ H Q h)
end
section
variable {X : Cx} {Z : ZZ X.K} {W : WX} {a b c : Expr} {fa fb fc : Ev → Gp → R U} {pos : Pos}
abbrev gLt := gCmpI fun i j => decide (i < j)
abbrev gLe := gCmpI fun i j => decide (i ≤ j)
abbrev gGt := gCmpI fun i j => decide (j < i)
abbrev gGe := gCmpI fun i j => decide (j ≤ i)
/-! int comparisons, as tests and as values -/
theorem flt (ha : FE X Z W a fa) (hb : FE X Z W b fb) : FE X Z W (.Compare a [.Lt] [b] pos) (eBin gLt fa fb) := fcmp o2CmpI op_lt ha hb (nomark _)
theorem fle (ha : FE X Z W a fa) (hb : FE X Z W b fb) : FE X Z W (.Compare a [.LtE] [b] pos) (eBin gLe fa fb) := fcmp o2CmpI op_le ha hb (nomark _)
theorem fgt (ha : FE X Z W a fa) (hb : FE X Z W b fb) : FE X Z W (.Compare a [.Gt] [b] pos) (eBin gGt fa fb) := fcmp o2CmpI op_gt ha hb (nomark _)
theorem fge (ha : FE X Z W a fa) (hb : FE X Z W b fb) : FE X Z W (.Compare a [.GtE] [b] pos) (eBin gGe fa fb) := fcmp o2CmpI op_ge ha hb (nomark _)
theorem feq (hu : X.A.units + 64 < cLine) (ha : FE X Z W a fa) (hb : FE X Z W b fb) : FE X Z W (.Compare a [.Eq] [b] pos) (eBin gEq fa fb) := fcmp o2Eq (orEq hu) ha hb (nomark _)
theorem fne (hu : X.A.units + 64 < cLine) (ha : FE X Z W a fa) (hb : FE X Z W b fb) : FE X Z W (.Compare a [.NotEq] [b] pos) (eBin gNe fa fb) := fcmp o2Ne (orNe hu) ha hb (nomark _)
theorem fisN (ha : FE X Z W a fa) (hb : FE X Z W b fb) : FE X Z W (.Compare a [.Is] [b] pos) (eBin gIsN fa fb) := fcmp o2IsN op_isN ha hb (nomark _)
theorem fnotN (ha : FE X Z W a fa) (hb : FE X Z W b fb) : FE X Z W (.Compare a [.IsNot] [b] pos) (eBin gNotN fa fb) := fcmp o2NotN op_notN ha hb (nomark _)
theorem fin_ (ha : FE X Z W a fa) (hb : FE X Z W b fb) (hm : behindInMarks .In b = false := by rfl) : FE X Z W (.Compare a [.In] [b] pos) (eBin (gIn false) fa fb) := fcmp o2In op_in_seq ha hb hm
theorem fnin (ha : FE X Z W a fa) (hb : FE X Z W b fb) (hm : behindInMarks .NotIn b = false := by rfl) : FE X Z W (.Compare a [.NotIn] [b] pos) (eBin (gIn true) fa fb) := fcmp o2In op_notIn_seq ha hb hm
theorem tlt (ha : FE X Z W a fa) (hb : FE X Z W b fb) : FT X Z W (.Compare a [.Lt] [b] pos) (bVal (eBin gLt fa fb)) := ft_cmp o2CmpI op_lt ha hb (nomark _)
theorem tle (ha : FE X Z W a fa) (hb : FE X Z W b fb) : FT X Z W (.Compare a [.LtE] [b] pos) (bVal (eBin gLe fa fb)) := ft_cmp o2CmpI op_le ha hb (nomark _)
theorem tgt (ha : FE X Z W a fa) (hb : FE X Z W b fb) : FT X Z W (.Compare a [.Gt] [b] pos) (bVal (eBin gGt fa fb)) := ft_cmp o2CmpI op_gt ha hb (nomark _)
theorem tge (ha : FE X Z W a fa) (hb : FE X Z W b fb) : FT X Z W (.Compare a [.GtE] [b] pos) (bVal (eBin gGe fa fb)) := ft_cmp o2CmpI op_ge ha hb (nomark _)
theorem teq (hu : X.A.units + 64 < cLine) (ha : FE X Z W a fa) (hb : FE X Z W b fb) : FT X Z W (.Compare a [.Eq] [b] pos) (bVal (eBin gEq fa fb)) := ft_cmp o2Eq (orEq hu) ha hb (nomark _)
theorem tne (hu : X.A.units + 64 < cLine) (ha : FE X Z W a fa) (hb : FE X Z W b fb) : FT X Z W (.Compare a [.NotEq] [b] pos) (bVal (eBin gNe fa fb)) := ft_cmp o2Ne (orNe hu) ha hb (nomark _)
theorem tisN (ha : FE X Z W a fa) (hb : FE X Z W b fb) : FT X Z W (.Compare a [.Is] [b] pos) (bVal (eBin gIsN fa fb)) := ft_cmp o2IsN op_isN ha hb (nomark _)
theorem tnotN (ha : FE X Z W a fa) (hb : FE X Z W b fb) : FT X Z W (.Compare a [.IsNot] [b] pos) (bVal (eBin gNotN fa fb)) := ft_cmp o2NotN op_notN ha hb (nomark _)
theorem tin (ha : FE X Z W a fa) (hb : FE X Z W b fb) (hm : behindInMarks .In b = false := by rfl) : FT X Z W (.Compare a [.In] [b] pos) (bVal (eBin (gIn false) fa fb)) := ft_cmp o2In op_in_seq ha hb hm
theorem tnin (ha : FE X Z W a fa) (hb : FE X Z W b fb) (hm : behindInMarks .NotIn b = false := by rfl) : FT X Z W (.Compare a [.NotIn] [b] pos) (bVal (eBin (gIn true) fa fb)) := ft_cmp o2In op_notIn_seq ha hb hm
/-- a <= b <= c and its like -/
theorem fcleLe (ha : FE X Z W a fa) (hb : FE X Z W b fb) (hc : FE X Z W c fc) (hm : lastMarks [.LtE, .LtE] [b, c] = false := by with_unfolding_all rfl) : FE X Z W (.Compare a [.LtE, .LtE] [b, c] pos) (eChain gLe gLe fa fb fc) := fchain o2CmpI o2CmpI op_le op_le ha hb hc hm
theorem fcleLt (ha : FE X Z W a fa) (hb : FE X Z W b fb) (hc : FE X Z W c fc) (hm : lastMarks [.LtE, .Lt] [b, c] = false := by with_unfolding_all rfl) : FE X Z W (.Compare a [.LtE, .Lt] [b, c] pos) (eChain gLe gLt fa fb fc) := fchain o2CmpI o2CmpI op_le op_lt ha hb hc hm
theorem fcltLe (ha : FE X Z W a fa) (hb : FE X Z W b fb) (hc : FE X Z W c fc) (hm : lastMarks [.Lt, .LtE] [b, c] = false := by with_unfolding_all rfl) : FE X Z W (.Compare a [.Lt, .LtE] [b, c] pos) (eChain gLt gLe fa fb fc) := fchain o2CmpI o2CmpI op_lt op_le ha hb hc hm
theorem fcltLt (ha : FE X Z W a fa) (hb : FE X Z W b fb) (hc : FE X Z W c fc) (hm : lastMarks [.Lt, .Lt] [b, c] = false := by with_unfolding_all rfl) : FE X Z W (.Compare a [.Lt, .Lt] [b, c] pos) (eChain gLt gLt fa fb fc) := fchain o2CmpI o2CmpI op_lt op_lt ha hb hc hm
theorem tcleLe (ha : FE X Z W a fa) (hb : FE X Z W b fb) (hc : FE X Z W c fc) (hm : lastMarks [.LtE, .LtE] [b, c] = false := by with_unfolding_all rfl) : FT X Z W (.Compare a [.LtE, .LtE] [b, c] pos) (bVal (eChain gLe gLe fa fb fc)) := ftchain o2CmpI o2CmpI op_le op_le ha hb hc hm
theorem tcleLt (ha : FE X Z W a fa) (hb : FE X Z W b fb) (hc : FE X Z W c fc) (hm : lastMarks [.LtE, .Lt] [b, c] = false := by with_unfolding_all rfl) : FT X Z W (.Compare a [.LtE, .Lt] [b, c] pos) (bVal (eChain gLe gLt fa fb fc)) := ftchain o2CmpI o2CmpI op_le op_lt ha hb hc hm
theorem tcltLe (ha : FE X Z W a fa) (hb : FE X Z W b fb) (hc : FE X Z W c fc) (hm : lastMarks [.Lt, .LtE] [b, c] = false := by with_unfolding_all rfl) : FT X Z W (.Compare a [.Lt, .LtE] [b, c] pos) (bVal (eChain gLt gLe fa fb fc)) := ftchain o2CmpI o2CmpI op_lt op_le ha hb hc hm
theorem tcltLt (ha : FE X Z W a fa) (hb : FE X Z W b fb) (hc : FE X Z W c fc) (hm : lastMarks [.Lt, .Lt] [b, c] = false := by with_unfolding_all rfl) : FT X Z W (.Compare a [.Lt, .Lt] [b, c] pos) (bVal (eChain gLt gLt fa fb fc)) := ftchain o2CmpI o2CmpI op_lt op_lt ha hb hc hm
end
end FL

set_option Elab.async false
set_option linter.all false
set_option maxRecDepth 100000
set_option maxHeartbeats 4000000
set_option autoImplicit false
namespace FL
open PySem PySem.Spec L2

/-! ### items, slices -/
def gIdx (x y : U) (G : Gp) : R U := match y with
  | .int i => match x with
    | .str z => if z.length ≤ 16777216 then (match atI z.cps.toList i with
      | some c => .ok (.str ⟨#[c]⟩) G
      | none => .bad) else .bad
    | _ => match seqU G x with
      | some xs => match atI xs i with
        | some u => .ok u G
        | none => .bad
      | none => .bad
  | _ => .bad
section
variable {K : KZ} {ρ : List Addr} {G : Gp} {H : Hp}
theorem atI_rel {xs : List U} {vs : List V} (r : RUs K ρ H xs vs) {i : Int} {u : U} (h : atI xs i = some u) : ∃ v, atI vs i = some v ∧ RU K ρ H u v := by
  unfold atI at h ⊢
  rw [← r.len]
  cases q : ixN xs.length i with
  | none => rw [q] at h; exact nomatch h
  | some j =>
    rw [q] at h
    exact r.getU h
theorem o2Idx : Op2 K (rIx K.K) gIdx := by
  intro ρ G H x y v w Q E S rx ry h
  cases ry with
  | int i =>
    have sq : ∀ xs, seqU G x = some xs → gIdx x (.int i) G = (match atI xs i with
        | some u => .ok u G
        | none => .bad) → rIx K.K v (.int i) H Q := by
      intro xs hs hg
      rw [hg] at h
      obtain ⟨p, vs, rfl, hq, hr⟩ := seqU_ok S rx hs
      cases q : atI xs i with
      | none => rw [q] at h; exact h.elim
      | some u =>
        rw [q] at h
        obtain ⟨z, e, rz⟩ := atI_rel hr q
        have f := h.end_ S rz
        rcases hq with hq | hq
        · exact .inl ⟨p, vs, i, z, rfl, rfl, hq, e, f⟩
        · exact .inr (.inl ⟨p, vs, i, z, rfl, rfl, hq, e, f⟩)
    cases rx with
    | str z =>
      unfold gIdx at h
      simp only at h
      by_cases hl : z.length ≤ 16777216
      · rw [if_pos hl] at h
        cases q : atI z.cps.toList i with
        | none => rw [q] at h; exact h.elim
        | some c => rw [q] at h; exact .inr (.inr ⟨z, i, c, rfl, rfl, by rw [line_eq]; exact hl, q, h.end_ S (.str _)⟩)
      · rw [if_neg hl] at h; exact h.elim
    | @tup xs vs a ha hr => exact sq xs rfl rfl
    | @rl xs vs a ha hr => exact sq xs rfl rfl
    | @wt xs vs a ha hr => exact sq xs rfl rfl
    | @ref l a ha =>
      cases q : seqU G (.ref l) with
      | none => unfold gIdx at h; simp only [q] at h; exact h.elim
      | some xs => exact sq xs q (by unfold gIdx; simp only [q])
    | _ => exact h.elim
  | _ => cases x <;> exact h.elim
def cutU {α : Type} (xs : List α) (lo hi : Option Int) : List α := (xs.drop (HT.sIx xs.length 0 lo)).take (HT.sIx xs.length xs.length hi - HT.sIx xs.length 0 lo)
theorem cutU_rel {xs : List U} {vs : List V} (r : RUs K ρ H xs vs) (lo hi : Option Int) : RUs K ρ H (cutU xs lo hi) (cutV vs lo hi) := by
  unfold cutU cutV
  rw [r.len]
  exact (r.drop _).take _
def gSl (x : U) (lo hi : Option Int) (G : Gp) : R U := match x with
  | .str z => if z.length ≤ 16777216 then .ok (.str (cutS z lo hi)) G else .bad
  | .tup xs => .ok (.tup (cutU xs lo hi)) G
  | .rl xs => .ok (.ref G.length) (G ++ [.lst (cutU xs lo hi)])
  | .ref l => match G[l]? with
    | some (.lst xs) => .ok (.ref G.length) (G ++ [.lst (cutU xs lo hi)])
    | _ => .bad
  | _ => .bad
def rSlAll (K : PySem.W.Frag) : V → Option Int → Option Int → Hp → VK → Prop := fun x lo hi H Q => (rSlL K x lo hi H Q ∨ rSlA K x lo hi H Q) ∨ rSlS x lo hi H Q
theorem slAll {X : Cx} : SlR X (rSlAll X.K) := (sl_list.or sl_tupA).or sl_str
theorem oSl {x : U} {v : V} {lo hi : Option Int} {Q : VK} {E : XK} (S : Sim K ρ G H) (rx : RU K ρ H x v) (h : Post K (RU K) ρ H (gSl x lo hi G) Q E) : rSlAll K.K v lo hi H Q := by
  cases rx with
  | str z =>
    unfold gSl at h
    simp only at h
    by_cases hl : z.length ≤ 16777216
    · rw [if_pos hl] at h
      exact .inr ⟨z, rfl, by rw [line_eq]; exact hl, h.end_ S (.str _)⟩
    · rw [if_neg hl] at h; exact h.elim
  | @tup xs vs a ha hr =>
    refine .inl (.inr ⟨a, vs, rfl, ha.sq, fun z => ?_, fun _ => newTup S (cutU_rel hr lo hi) h⟩)
    have e : cutU xs lo hi = xs := by
      unfold cutU
      rw [hr.len, z.1, z.2]
      rw [List.drop_zero, Nat.sub_zero, ← hr.len, List.take_length]
    have h : Post K (RU K) ρ H (.ok (.tup (cutU xs lo hi)) G) Q E := h
    rw [e] at h
    exact h.end_ S (.tup ha hr)
  | @rl xs vs a ha hr => exact .inl (.inl ⟨a, vs, rfl, ha.sq, newLst S (cutU_rel hr lo hi) h⟩)
  | @ref l a ha =>
    unfold gSl at h
    simp only at h
    cases q : G[l]? with
    | none => rw [q] at h; exact h.elim
    | some o =>
      rw [q] at h
      cases o with
      | lst xs =>
        obtain ⟨vs, e1, r1⟩ := S.list ha q
        exact .inl (.inl ⟨a, vs, rfl, SqL.of e1, newLst S (cutU_rel r1 lo hi) h⟩)
      | _ => exact h.elim
  | _ => exact h.elim
end
/-! parts of a slice -/
def pNo : Ev → Gp → R (Option Int) := fun _ G => .ok none G
def pInt (f : Ev → Gp → R U) : Ev → Gp → R (Option Int) := fun env G => (f env G).bind fun u G1 => match u with
  | .int i => .ok (some i) G1
  | _ => .bad
def eSl (f : Ev → Gp → R U) (lo hi : Ev → Gp → R (Option Int)) : Ev → Gp → R U := fun env G => (f env G).bind fun x G1 => (lo env G1).bind fun l G2 => (hi env G2).bind fun h G3 => gSl x l h G3
abbrev FO (X : Cx) (Z : ZZ X.K) (W : WX) (e : Option Expr) (f : Ev → Gp → R (Option Int)) : Prop := PO X e (tG (kz X Z) (fun _ _ a b => a = b) W f)
theorem POimp {X : Cx} {e : Option Expr} {t t' : TO} (h : PO X e t) (i : ∀ σ H Q, t' σ H Q → t σ H Q) : PO X e t' := ⟨fun pins s σ H Q I q => h.run pins s σ H Q I (i σ H Q q)⟩
section
variable {X : Cx} {Z : ZZ X.K} {W : WX} {a b e : Expr} {fa fb f : Ev → Gp → R U} {lo hi : Ev → Gp → R (Option Int)} {l h : Option Expr} {pos p2 : Pos}
theorem fidx (ha : FE X Z W a fa) (hb : FE X Z W b fb) (hs : PlainIx b := by exact fun _ _ => rfl) : FE X Z W (.Subscript a b pos) (eBin gIdx fa fb) := PEimp (pe_ix ix_seq ha hb hs) (tOp_of o2Idx)
theorem fono : FO X Z W none pNo := POimp po_none fun σ H Q ⟨ρ, G, env, S, e, h⟩ => Post.end_ (rel := fun _ _ (a b : Option Int) => a = b) h S rfl
theorem foint (he : FE X Z W e f) : FO X Z W (some e) (pInt f) := by
  refine POimp (po_some he) fun σ H Q ⟨ρ, G, env, S, e, h⟩ => ?_
  refine tG_mono (step (rel' := fun _ _ (a b : Option Int) => a = b) S e h) fun v H1 ⟨ρ1, G1, x, p1, s1, S1, e1, r1, h1⟩ => ?_
  cases r1 with
  | int i => exact ⟨i, rfl, h1.end_ S1 rfl⟩
  | _ => exact h1.elim
theorem fslice (ha : FE X Z W a fa) (hl : FO X Z W l lo) (hh : FO X Z W h hi) : FE X Z W (.Subscript a (.Slice l h none p2) pos) (eSl fa lo hi) := by
  refine PEimp (pe_slice slAll ha hl hh) fun σ H Q ⟨ρ, G, env, S, e, h⟩ => ?_
  refine tG_mono (step S e h) fun v H1 ⟨ρ1, G1, x, p1, s1, S1, e1, r1, h1⟩ => ?_
  refine tG_mono (step (rel := fun _ _ (a b : Option Int) => a = b) S1 e1 h1) fun w H2 ⟨ρ2, G2, y, p2, s2, S2, e2, r2, h2⟩ => ?_
  subst r2
  refine tG_mono (step (rel := fun _ _ (a b : Option Int) => a = b) S2 e2 h2) fun w3 H3 ⟨ρ3, G3, z, p3, s3, S3, e3, r3, h3⟩ => ?_
  subst r3
  exact oSl S3 ((r1.mono p2 s2).mono p3 s3) h3
end

/-! ### stores into lists -/
def R.bindN {α β : Type} (r : R α) (k : α → Gp → R β) : R β := match r with
  | .ok a G => k a G
  | _ => .bad
def setU (o i v : U) (G : Gp) : R Unit := match o, i with
  | .ref l, .int k => match G[l]? with
    | some (.lst xs) => match ixN xs.length k with
      | some j => .ok () (G.set l (.lst (xs.set j v)))
      | none => .bad
    | _ => .bad
  | _, _ => .bad
def gSubE (fo fi : Ev → Gp → R U) : U → Ev → Gp → R Ev := fun v env G => (fo env G).bindN fun o G1 => (fi env G1).bindN fun i G2 => (setU o i v G2).bindN fun _ G3 => .ok env G3
section
variable {K : KZ} {ρ : List Addr} {G : Gp} {H : Hp}
/-- the list at l changes -/
theorem Sim.setList (S : Sim K ρ G H) {l : Nat} {a : Addr} {xs ys : List U} {vs ws : List V} (ha : ρ[l]? = some a) (e : H a = some (.lst vs)) (r : RUs K ρ H ys ws) : Sim K ρ (G.set l (.lst ys)) (upd H a (.lst ws)) ∧ Stb K H (upd H a (.lst ws)) := by
  have st : Stb K H (upd H a (.lst ws)) := stb_write e (fun _ z => nomatch z) (fun _ _ z => nomatch z) fun _ z => nomatch z
  exact ⟨S.write ha e (fun _ z => nomatch z) (fun _ _ z => nomatch z) (fun _ z => nomatch z) (show RUs K ρ _ ys ws from r.mono pre_refl st), st⟩
theorem ixN_rel {xs : List U} {vs : List V} (r : RUs K ρ H xs vs) (k : Int) : ixN vs.length k = ixN xs.length k := by rw [r.len]
theorem setU_ok {o i v : U} {ov iv vv : V} (S : Sim K ρ G H) (ro : RU K ρ H o ov) (ri : RU K ρ H i iv) (rv : RU K ρ H v vv) {Q : Hp → Prop} {G' : Gp} (h : setU o i v G = .ok () G')
    (q : ∀ H', Stb K H H' → Sim K ρ G' H' → Q H') : rSetL ov iv vv H Q := by
  unfold setU at h
  cases ro with
  | @ref l a ha =>
    cases ri with
    | int k =>
      simp only at h
      cases e1 : G[l]? with
      | none => rw [e1] at h; exact nomatch h
      | some ob =>
        rw [e1] at h
        cases ob with
        | lst xs =>
          simp only at h
          cases e2 : ixN xs.length k with
          | none => rw [e2] at h; exact nomatch h
          | some j =>
            rw [e2] at h
            cases h
            obtain ⟨vs, e3, r3⟩ := S.list ha e1
            obtain ⟨S', st⟩ := S.setList (xs := xs) ha e3 (r3.set rv j)
            exact ⟨a, vs, k, j, rfl, rfl, e3, by rw [ixN_rel r3]; exact e2, q _ st S'⟩
        | _ => exact nomatch h
    | _ => exact nomatch h
  | _ => cases ri <;> exact nomatch h
end
section
variable {X : Cx} {Z : ZZ X.K} {W : WX} {o i e : Expr} {fo fi f : Ev → Gp → R U} {pos : Pos}
theorem bindN_ok {α β : Type} {r : R α} {k : α → Gp → R β} {b : β} {G' : Gp} (h : r.bindN k = .ok b G') : ∃ a G1, r = .ok a G1 ∧ k a G1 = .ok b G' := by
  cases r with
  | ok a G1 => exact ⟨a, G1, rfl, h⟩
  | _ => exact nomatch h
theorem bindN_nx {α β : Type} {r : R α} {k : α → Gp → R β} {c : Str} {fs : List (Str × U)} {G' : Gp} (h : r.bindN k = .exc c fs G') : ∃ a G1, r = .ok a G1 ∧ k a G1 = .exc c fs G' := by
  cases r with
  | ok a G1 => exact ⟨a, G1, rfl, h⟩
  | _ => exact nomatch h
theorem nxSub {fo fi : Ev → Gp → R U} : NoX (gSubE fo fi) := fun u env G c fs G' h => by
  obtain ⟨a, G1, _, h⟩ := bindN_nx h
  obtain ⟨b, G2, _, h⟩ := bindN_nx h
  obtain ⟨d, G3, _, h⟩ := bindN_nx h
  exact nomatch h
/-- a reading of an expression whose value is known -/
theorem tF_ok {K : KZ} {W : WX} {f : Ev → Gp → R U} {σ : St} {H : Hp} {ρ : List Addr} {G G1 : Gp} {env : Ev} {u : U} {Q : VK} (S : Sim K ρ G H) (e : REq K ρ H env σ) (hf : f env G = .ok u G1)
    (q : ∀ v ρ1 H1, ρ <+: ρ1 → Stb K H H1 → Sim K ρ1 G1 H1 → RU K ρ1 H1 u v → Q v H1) : tF K W f σ H Q := ⟨ρ, G, env, S, e, by rw [hf]; exact q⟩
theorem fgsub (ho : FE X Z W o fo) (hi : FE X Z W i fi) (ha : ∀ v, assign (.Subscript o i pos) X.env v = (do
      let ov ← holding [v] (eval o X.env)
      let iv ← holding [v, ov] (eval i X.env)
      standAt pos
      holding [v, ov, iv] (setItem ov iv v)
      release [v, ov, iv] []) := by intro _; rfl) : FG X Z (.Subscript o i pos) (gSubE fo fi) := by
  refine PGimp (pg_sub ho hi set_list ha) fun v σ H Q ⟨ρ, G, env, u, S, e, r, h⟩ => ?_
  cases q : gSubE fo fi u env G with
  | bad => rw [q] at h; exact h.elim
  | exc c fs G' => exact absurd q (nxSub _ _ _ _ _ _)
  | ok env' G' =>
    rw [q] at h
    obtain ⟨a, G1, q1, q⟩ := bindN_ok q
    obtain ⟨b, G2, q2, q⟩ := bindN_ok q
    obtain ⟨d, G3, q3, q⟩ := bindN_ok q
    cases q
    refine tF_ok S e q1 fun ov ρ1 H1 p1 s1 S1 r1 => tF_ok S1 (e.mono p1 s1) q2 fun iv ρ2 H2 p2 s2 S2 r2 => ?_
    exact setU_ok S2 (r1.mono p2 s2) r2 ((r.mono p1 s1).mono p2 s2) q3 fun H3 s3 S3 => h σ ρ2 H3 (p1.trans p2) ((s1.trans s2).trans s3) S3 (((e.mono p1 s1).mono p2 s2).mono pre_refl s3)
end

/-! ### name op= e; o[i] op= e -/
def sAug (i : Nat) (g : U → U → Gp → R U) (f : Ev → Gp → R U) : Ev → Gp → SR := fun env G => (eVar i env G).andThen env fun x G0 => (f env G0).andThen env fun y G1 => (g x y G1).andThen env fun z G2 => .nx (env.set i (some z)) G2
theorem opS {K : KZ} {W : WX} {r : R2} {g : U → U → Gp → R U} (o : Op2 K r g) {ρ : List Addr} {G : Gp} {H : Hp} {x y : U} {v w : V} {env : Ev} {σ : St} {D : Ends} {k : U → Gp → SR} (S : Sim K ρ G H) (e : REq K ρ H env σ) (rx : RU K ρ H x v) (ry : RU K ρ H y w)
    (h : PostS K ρ H ((g x y G).andThen env k) D W) : r v w H fun z H1 => ∃ ρ1 G1 u, ρ <+: ρ1 ∧ Stb K H H1 ∧ Sim K ρ1 G1 H1 ∧ REq K ρ1 H1 env σ ∧ RU K ρ1 H1 u z ∧ PostS K ρ1 H1 (k u G1) D W := by
  refine o ρ G H x y v w _ (fun c d H' => W c d σ H') S rx ry ?_
  cases q : g x y G with
  | ok a G1 => rw [q] at h; exact fun b ρ1 H1 p s S1 r => ⟨ρ1, G1, a, p, s, S1, e.mono p s, r, h.lift p s⟩
  | exc c fs G1 => rw [q] at h; exact fun d vfs ρ' H' p s S1 q1 q2 => h σ d vfs ρ' H' p s S1 (e.mono p s) q1 q2
  | bad => rw [q] at h; exact h
section
variable {X : Cx} {Z : ZZ X.K} {W : WX} {o i e : Expr} {fo fi f : Ev → Gp → R U} {pos : Pos}
theorem fsaug {n : Nat} {x : Str} {op : Operator} {r : R2} {g : U → U → Gp → R U} {pos' : Pos} (og : Op2 (kz X Z) r g) (ho : OpR X (inplaceOp op) r) (hN : X.N.Nodup) (hi : X.N[n]? = some x) (hx : Loc X.env.scope x) (he : FE X Z W e f)
    (hf : X.fn x = true ∨ X.env.scope.names.lookup x = some .local := by first | exact .inl rfl | exact .inr rfl | assumption) : FS X Z W (.AugAssign (.Name x pos') op e pos) (sAug n g f) := by
  refine PSimp (ps_aug (ti := r) hN hi hx he (fun pins s σ H x y v u Q I rx ry h => ho pins s σ H x y v u Q I rx ry h) hf) fun D σ H ⟨ρ, G, env, S, e, h⟩ => ?_
  have h : PostS (kz X Z) ρ H ((eVar n env G).andThen env fun x G0 => (f env G0).andThen env fun y G1 => (g x y G1).andThen env fun z G2 => .nx (env.set n (some z)) G2) D W := h
  cases q : env[n]? with
  | none => simp only [eVar, q] at h; exact h.elim
  | some ox =>
    cases ox with
    | none => simp only [eVar, q] at h; exact h.elim
    | some u =>
      simp only [eVar, q] at h
      obtain ⟨v, e1, rv⟩ := e.get q
      refine ⟨v, e1, ?_⟩
      refine tG_mono (stepS S e h) fun w H1 ⟨ρ1, G1, y, p1, s1, S1, ee1, r1, h1⟩ => ?_
      have z := opS og S1 ee1 (rv.mono p1 s1) r1 h1
      refine og ρ1 G1 H1 u y v w _ (fun c d H' => W c d σ H') S1 (rv.mono p1 s1) r1 ?_
      cases q2 : g u y G1 with
      | ok a G2 => rw [q2] at h1; exact fun b ρ2 H2 p2 s2 S2 r2 => h1 _ ρ2 H2 p2 s2 S2 ((ee1.mono p2 s2).set r2 n)
      | exc c fs G2 => rw [q2] at h1; exact fun d vfs ρ' H' p s S1 z1 z2 => h1 σ d vfs ρ' H' p s S1 (ee1.mono p s) z1 z2
      | bad => rw [q2] at h1; exact h1
theorem fsaugAdd {n : Nat} {x : Str} {pos' : Pos} (hN : X.N.Nodup) (hi : X.N[n]? = some x) (hx : Loc X.env.scope x) (he : FE X Z W e f)
    (hf : X.fn x = true ∨ X.env.scope.names.lookup x = some .local := by first | exact .inl rfl | exact .inr rfl | assumption) : FS X Z W (.AugAssign (.Name x pos') .Add e pos) (sAug n (fun x y G => match x, y with
      | .int i, .int j => .ok (.int (i + j)) G
      | _, _ => .bad) f) := fsaug (r := rI0 fun i j => .int (i + j)) (fun ρ G H x y v w Q E S rx ry h => by
    cases rx with
    | int i =>
      cases ry with
      | int j => exact ⟨i, j, rfl, rfl, h.end_ S (.int _)⟩
      | _ => exact h.elim
    | _ => cases ry <;> exact h.elim) iop_add hN hi hx he hf
theorem fsaugSub {n : Nat} {x : Str} {pos' : Pos} (hN : X.N.Nodup) (hi : X.N[n]? = some x) (hx : Loc X.env.scope x) (he : FE X Z W e f)
    (hf : X.fn x = true ∨ X.env.scope.names.lookup x = some .local := by first | exact .inl rfl | exact .inr rfl | assumption) : FS X Z W (.AugAssign (.Name x pos') .Sub e pos) (sAug n gSub f) := fsaug o2Sub iop_sub hN hi hx he hf
end

/-! ### calls of built-ins by values -/
def OpN (K : KZ) (r : List V → Hp → VK → Prop) (g : List U → Gp → R U) : Prop := ∀ ρ G H us vs Q E, Sim K ρ G H → RUs K ρ H us vs → Post K (RU K) ρ H (g us G) Q E → r vs H Q
def eCall (g : List U → Gp → R U) (fa : Ev → Gp → R (List U)) : Ev → Gp → R U := fun env G => (fa env G).bind g
section
variable {X : Cx} {Z : ZZ X.K} {W : WX} {x : Str} {p pos : Pos} {e : Expr} {es : List Expr} {fa : Ev → Gp → R (List U)} {g : List U → Gp → R U} {r : List V → Hp → VK → Prop} {id T : String}
theorem tCB_of {K : KZ} {W : WX} (o : OpN K r g) (σ : St) (H : Hp) (Q : VK) (h : tF K W (eCall g fa) σ H Q) : tCB r (taF K W fa) σ H Q := by
  obtain ⟨ρ, G, env, S, e, h⟩ := h
  exact tG_mono (step (rel := RUs K) S e h) fun v H1 ⟨ρ1, G1, x, p1, s1, S1, e1, r1, h1⟩ => o _ _ _ _ _ _ _ S1 r1 h1
theorem fcallB (o : OpN (kz X Z) r g) (hc : CallR X (.builtin id) r) (hg : Gl X x) (hm : X.mg x = none) (hv : bootBuiltins x = some (.builtin id)) (ha : FA X Z W (e :: es) fa) (hn : x ≠ "__name__" := by decide) (hdb : (x == ("__debug__" : Str)) = false := by decide)
    (he : starEach (e :: es) X.env = (false, eval e X.env) :: starEach es X.env := by rfl) (hpl : (backTo pos (starEach es X.env)).any (·.1) = false := by rfl) : FE X Z W (.Call (.Name x p) (e :: es) [] pos) (eCall g fa) := PEimp (pe_callB hc hg hm hv ha hn hdb he hpl) (tCB_of o)
theorem fcallTy (o : OpN (kz X Z) r g) (hc : CallR X (.type T) r) (hg : Gl X x) (hm : X.mg x = none) (hv : bootBuiltins x = some (.type T)) (ha : FA X Z W (e :: es) fa) (hn : x ≠ "__name__" := by decide) (hdb : (x == ("__debug__" : Str)) = false := by decide)
    (he : starEach (e :: es) X.env = (false, eval e X.env) :: starEach es X.env := by rfl) (hpl : (backTo pos (starEach es X.env)).any (·.1) = false := by rfl) : FE X Z W (.Call (.Name x p) (e :: es) [] pos) (eCall g fa) := PEimp (pe_callTy hc hg hm hv ha hn hdb he hpl) (tCB_of o)
end
/-! len -/
def bLen (us : List U) (G : Gp) : R U := match us with
  | [.str z] => if z.length ≤ 16777216 then .ok (.int z.length) G else .bad
  | [u] => match seqU G u with
    | some xs => .ok (.int xs.length) G
    | none => .bad
  | _ => .bad
def rLenA (K : PySem.W.Frag) : List V → Hp → VK → Prop := fun xs H Q => ∃ x n, xs = [x] ∧ LenV K x H n ∧ Q (.int n) H
theorem oLen {K : KZ} : OpN K (rLenA K.K) bLen := by
  intro ρ G H us vs Q E S r h
  cases r with
  | nil => exact h.elim
  | @cons x v xs vs hx ht =>
    cases ht with
    | cons _ _ => cases x <;> exact h.elim
    | nil =>
      have sq : ∀ ys, seqU G x = some ys → bLen [x] G = .ok (.int ys.length) G → rLenA K.K [v] H Q := by
        intro ys hs hg
        rw [hg] at h
        obtain ⟨p, ws, rfl, hq, hr⟩ := seqU_ok S hx hs
        refine ⟨.ref p, ws.length, rfl, ?_, by rw [← hr.len]; exact h.end_ S (.int _)⟩
        rcases hq with hq | hq
        · exact .inl ⟨ws, hq, rfl⟩
        · exact .inr ⟨ws, hq, rfl⟩
      cases hx with
      | str z =>
        unfold bLen at h
        simp only at h
        by_cases hl : z.length ≤ 16777216
        · rw [if_pos hl] at h
          exact ⟨.str z, z.length, rfl, ⟨by rw [line_eq]; exact hl, rfl⟩, h.end_ S (.int _)⟩
        · rw [if_neg hl] at h; exact h.elim
      | @tup ys _ _ _ _ => exact sq ys rfl rfl
      | @rl ys _ _ _ _ => exact sq ys rfl rfl
      | @wt ys _ _ _ _ => exact sq ys rfl rfl
      | @ref l a ha =>
        cases q : seqU G (.ref l) with
        | none => unfold bLen at h; simp only [q] at h; exact h.elim
        | some ys => exact sq ys q (by unfold bLen; simp only [q])
      | _ => exact h.elim
/-! int, abs, max, min of two ints; tuple, list -/
def bInt (us : List U) (G : Gp) : R U := match us with
  | [.int i] => .ok (.int i) G
  | [.bl k] => .ok (.int (if k = true then 1 else 0)) G
  | _ => .bad
def bAbs (us : List U) (G : Gp) : R U := match us with
  | [.int i] => .ok (.int (if i < 0 then -i else i)) G
  | _ => .bad
def bMax2 (us : List U) (G : Gp) : R U := match us with
  | [.int i, .int j] => .ok (.int (if j > i then j else i)) G
  | _ => .bad
def bMin2 (us : List U) (G : Gp) : R U := match us with
  | [.int i, .int j] => .ok (.int (if j < i then j else i)) G
  | _ => .bad
def bTuple (us : List U) (G : Gp) : R U := match us with
  | [.wt _] => .bad
  | [u] => match seqU G u with
    | some xs => .ok (.tup xs) G
    | none => .bad
  | _ => .bad
def bList (us : List U) (G : Gp) : R U := match us with
  | [u] => match seqU G u with
    | some xs => .ok (.ref G.length) (G ++ [.lst xs])
    | none => .bad
  | _ => .bad
section
variable {K : KZ}
theorem oInt : OpN K (fun xs H Q => (∃ i, xs = [.int i] ∧ Q (.int i) H) ∨ ∃ k, xs = [.bl k] ∧ Q (.int (if k then 1 else 0)) H) bInt := by
  intro ρ G H us vs Q E S r h
  unfold bInt at h
  split at h
  · obtain ⟨v, rfl, rv⟩ := r.one
    cases rv
    exact .inl ⟨_, rfl, h.end_ S (.int _)⟩
  · obtain ⟨v, rfl, rv⟩ := r.one
    cases rv
    exact .inr ⟨_, rfl, h.end_ S (.int _)⟩
  · exact h.elim
theorem oAbs : OpN K (fun xs H Q => ∃ i, xs = [.int i] ∧ Q (.int (if i < 0 then -i else i)) H) bAbs := by
  intro ρ G H us vs Q E S r h
  unfold bAbs at h
  split at h
  · obtain ⟨v, rfl, rv⟩ := r.one
    cases rv
    exact ⟨_, rfl, h.end_ S (.int _)⟩
  · exact h.elim
theorem oMax2 : OpN K (fun xs H Q => ∃ i j, xs = [.int i, .int j] ∧ Q (.int (if j > i then j else i)) H) bMax2 := by
  intro ρ G H us vs Q E S r h
  unfold bMax2 at h
  split at h
  · obtain ⟨v, w, rfl, rv, rw'⟩ := r.two
    cases rv
    cases rw'
    exact ⟨_, _, rfl, h.end_ S (.int _)⟩
  · exact h.elim
theorem oMin2 : OpN K (fun xs H Q => ∃ i j, xs = [.int i, .int j] ∧ Q (.int (if j < i then j else i)) H) bMin2 := by
  intro ρ G H us vs Q E S r h
  unfold bMin2 at h
  split at h
  · obtain ⟨v, w, rfl, rv, rw'⟩ := r.two
    cases rv
    cases rw'
    exact ⟨_, _, rfl, h.end_ S (.int _)⟩
  · exact h.elim
theorem oTuple : OpN K (fun xs H Q => ∃ p ys, xs = [.ref p] ∧ ((SqL K.K H p ys ∧ ∀ l, H l = none → Q (.ref l) (upd H l (.tup ys))) ∨ (SqT K.K H p ys ∧ Q (.ref p) H))) bTuple := by
  intro ρ G H us vs Q E S r h
  unfold bTuple at h
  split at h
  · exact h.elim
  · rename_i u hu
    obtain ⟨v, rfl, rv⟩ := r.one
    cases q : seqU G u with
    | none => rw [q] at h; exact h.elim
    | some xs =>
      rw [q] at h
      have h : Post K (RU K) ρ H (.ok (.tup xs) G) Q E := h
      cases rv with
      | @wt ys ws a ha hr => exact absurd rfl (hu ys)
      | @tup ys ws a ha hr => cases q; exact ⟨a, ws, rfl, .inr ⟨ha.sq, h.end_ S (.tup ha hr)⟩⟩
      | @rl ys ws a ha hr => cases q; exact ⟨a, ws, rfl, .inl ⟨ha.sq, newTup S hr h⟩⟩
      | @ref l a ha =>
        unfold seqU at q
        simp only at q
        cases e1 : G[l]? with
        | none => rw [e1] at q; exact nomatch q
        | some o =>
          rw [e1] at q
          cases o with
          | lst ys =>
            cases q
            obtain ⟨ws, e2, r2⟩ := S.list ha e1
            exact ⟨a, ws, rfl, .inl ⟨SqL.of e2, newTup S r2 h⟩⟩
          | _ => exact nomatch q
      | _ => exact nomatch q
  · exact h.elim
theorem oList : OpN K (fun xs H Q => ∃ p ys, xs = [.ref p] ∧ (SqL K.K H p ys ∨ SqT K.K H p ys) ∧ ∀ l, H l = none → Q (.ref l) (upd H l (.lst ys))) bList := by
  intro ρ G H us vs Q E S r h
  unfold bList at h
  split at h
  · rename_i u
    obtain ⟨v, rfl, rv⟩ := r.one
    cases q : seqU G u with
    | none => rw [q] at h; exact h.elim
    | some xs =>
      rw [q] at h
      obtain ⟨p, ws, rfl, hq, hr⟩ := seqU_ok S rv q
      exact ⟨p, ws, rfl, hq, newLst S hr h⟩
  · exact h.elim
end
/-! ### methods of lists -/
def mAppend (x : U) (us : List U) (G : Gp) : R U := match x, us with
  | .ref l, [y] => match G[l]? with
    | some (.lst xs) => if xs.length < 16777216 then .ok .non (G.set l (.lst (xs ++ [y]))) else .bad
    | _ => .bad
  | _, _ => .bad
def mPop (x : U) (us : List U) (G : Gp) : R U := match x, us with
  | .ref l, [] => match G[l]? with
    | some (.lst xs) => match xs[xs.length - 1]? with
      | some y => .ok y (G.set l (.lst xs.dropLast))
      | none => .bad
    | _ => .bad
  | _, _ => .bad
def mPopAt (x : U) (us : List U) (G : Gp) : R U := match x, us with
  | .ref l, [.int i] => if -(2 ^ 63) ≤ i ∧ i < 2 ^ 63 then match G[l]? with
    | some (.lst xs) => match ixN xs.length i with
      | some k => match xs[k]? with
        | some y => .ok y (G.set l (.lst (xs.eraseIdx k)))
        | none => .bad
      | none => .bad
    | _ => .bad
    else .bad
  | _, _ => .bad
def OpM (K : KZ) (r : V → List V → Hp → VK → Prop) (g : U → List U → Gp → R U) : Prop := ∀ ρ G H x v us vs Q E, Sim K ρ G H → RU K ρ H x v → RUs K ρ H us vs → Post K (RU K) ρ H (g x us G) Q E → r v vs H Q
def isLst (u : U) (G : Gp) : Bool := match u with
  | .ref l => match G[l]? with
    | some (.lst _) => true
    | _ => false
  | _ => false
def eMeth (g : U → List U → Gp → R U) (fo : Ev → Gp → R U) (fa : Ev → Gp → R (List U)) : Ev → Gp → R U := fun env G => (fo env G).bind fun o G1 => if isLst o G1 = true then (fa env G1).bind fun us G2 => g o us G2 else .bad
section
variable {K : KZ}
theorem isLst_ok {ρ : List Addr} {G : Gp} {H : Hp} {u : U} {v : V} (S : Sim K ρ G H) (r : RU K ρ H u v) (h : isLst u G = true) : tyV K.K "list" v H := by
  cases r with
  | @ref l a ha =>
    unfold isLst at h
    simp only at h
    cases q : G[l]? with
    | none => rw [q] at h; exact nomatch h
    | some o =>
      rw [q] at h
      cases o with
      | lst xs =>
        obtain ⟨vs, e, _⟩ := S.list ha q
        exact .inl ⟨rfl, vs, SqL.of e⟩
      | _ => exact nomatch h
  | _ => exact nomatch h
theorem RUs.zero {ρ : List Addr} {H : Hp} {vs : List V} (r : RUs K ρ H [] vs) : vs = [] := by cases r; rfl
theorem RUs.dropLast {ρ : List Addr} {H : Hp} : ∀ {us : List U} {vs : List V}, RUs K ρ H us vs → RUs K ρ H us.dropLast vs.dropLast
  | _, _, .nil => .nil
  | _, _, .cons h .nil => .nil
  | _, _, .cons h (.cons h2 t) => .cons h (RUs.dropLast (.cons h2 t))
theorem RUs.eraseIdx {ρ : List Addr} {H : Hp} : ∀ {us : List U} {vs : List V}, RUs K ρ H us vs → ∀ i : Nat, RUs K ρ H (us.eraseIdx i) (vs.eraseIdx i)
  | _, _, .nil, _ => .nil
  | _, _, .cons _ t, 0 => t
  | _, _, .cons h t, i + 1 => .cons h (t.eraseIdx i)
theorem updEnd {ρ : List Addr} {G : Gp} {H : Hp} {l : Nat} {a : Addr} {xs ys : List U} {vs ws : List V} {u : U} {v : V} {Q : VK} {E : XK} (S : Sim K ρ G H) (ha : ρ[l]? = some a) (e : H a = some (.lst vs)) (r : RUs K ρ H ys ws) (ru : RU K ρ H u v)
    (h : Post K (RU K) ρ H (.ok u (G.set l (.lst ys))) Q E) : Q v (upd H a (.lst ws)) := by
  obtain ⟨S', st⟩ := S.setList (xs := xs) ha e r
  exact h v ρ _ pre_refl st S' (ru.mono pre_refl st)
theorem oAppend : OpM K rAppend mAppend := by
  intro ρ G H x v us vs Q E S rx rs h
  unfold mAppend at h
  split at h
  · rename_i l y
    cases rx with
    | @ref _ a ha =>
      obtain ⟨w, rfl, rw'⟩ := rs.one
      cases q : G[l]? with
      | none => rw [q] at h; exact h.elim
      | some o =>
        rw [q] at h
        cases o with
        | lst xs =>
          obtain ⟨ws, e, r⟩ := S.list ha q
          simp only at h
          by_cases hl : xs.length < 16777216
          · rw [if_pos hl] at h
            exact ⟨a, ws, w, rfl, rfl, e, by rw [← r.len, line_eq]; exact hl, updEnd (xs := xs) S ha e (r.append (.cons rw' .nil)) .non h⟩
          · rw [if_neg hl] at h; exact h.elim
        | _ => exact h.elim
  · exact h.elim
theorem oPop : OpM K rPop mPop := by
  intro ρ G H x v us vs Q E S rx rs h
  unfold mPop at h
  split at h
  · rename_i l
    cases rx with
    | @ref _ a ha =>
      cases rs.zero
      cases q : G[l]? with
      | none => rw [q] at h; exact h.elim
      | some o =>
        rw [q] at h
        cases o with
        | lst xs =>
          obtain ⟨ws, e, r⟩ := S.list ha q
          simp only at h
          cases q2 : xs[xs.length - 1]? with
          | none => rw [q2] at h; exact h.elim
          | some y =>
            rw [q2] at h
            obtain ⟨w, e2, rw'⟩ := r.getU q2
            exact ⟨a, ws, w, rfl, rfl, e, by rw [← r.len]; exact e2, updEnd (xs := xs) S ha e r.dropLast rw' h⟩
        | _ => exact h.elim
  · exact h.elim
theorem oPopAt : OpM K rPopAt mPopAt := by
  intro ρ G H x v us vs Q E S rx rs h
  unfold mPopAt at h
  split at h
  · rename_i l i
    by_cases hi : -(2 ^ 63) ≤ i ∧ i < 2 ^ 63
    · rw [if_pos hi] at h
      cases rx with
      | @ref _ a ha =>
        obtain ⟨w0, rfl, rw0⟩ := rs.one
        cases rw0
        cases q : G[l]? with
        | none => rw [q] at h; exact h.elim
        | some o =>
          rw [q] at h
          cases o with
          | lst xs =>
            obtain ⟨ws, e, r⟩ := S.list ha q
            simp only at h
            cases q1 : ixN xs.length i with
            | none => rw [q1] at h; exact h.elim
            | some k =>
              rw [q1] at h
              simp only at h
              cases q2 : xs[k]? with
              | none => rw [q2] at h; exact h.elim
              | some y =>
                rw [q2] at h
                obtain ⟨w, e2, rw'⟩ := r.getU q2
                obtain ⟨h1, h2, h3, h4⟩ := ixN_seq q1
                exact ⟨a, ws, i, k, w, rfl, rfl, e, hi.1, hi.2, by rw [← r.len]; exact h1, e2, updEnd (xs := xs) S ha e (r.eraseIdx k) rw' h⟩
          | _ => exact h.elim
    · rw [if_neg hi] at h; exact h.elim
  · exact h.elim
end
section
variable {X : Cx} {Z : ZZ X.K} {W : WX} {o e : Expr} {es : List Expr} {fo : Ev → Gp → R U} {fa : Ev → Gp → R (List U)} {g : U → List U → Gp → R U} {r : V → List V → Hp → VK → Prop} {id : String} {name : Str} {apos cpos : Pos}
theorem fmeth (om : OpM (kz X Z) r g) (slot : Slot "list" name id) (hty : typeOf (.builtin id) = pure (.type "method_descriptor")) (hm : MtR X id r) (ho : FE X Z W o fo) (ha : FA X Z W (e :: es) fa)
    (hbase : attributeBase o name X.env (eval o X.env) = eval o X.env := by rfl)
    (hfew : ((backTo cpos (starEach (e :: es) X.env)).all (fun x => !x.1) && (backToKw cpos (keywordEach [] X.env)).all (fun x => x.1.isSome)
      && decide ((e :: es).length + ([] : List Keyword).length + (if ([] : List Keyword).isEmpty then 0 else 1) < 30)) = true := by rfl)
    (hline : (apos.endLine == cpos.line) = true := by rfl) (hs : starEach (e :: es) X.env = (false, eval e X.env) :: starEach es X.env := by rfl) (hplain : (backTo cpos (starEach es X.env)).any (·.1) = false := by rfl) :
    FE X Z W (.Call (.Attribute o name apos) (e :: es) [] cpos) (eMeth g fo fa) := by
  refine PEimp (pe_bm PySem.F.plainAttrs_list slot hty hm ho ha hbase hfew hline hs hplain) fun σ H Q ⟨ρ, G, env, S, e, h⟩ => ?_
  refine tG_mono (step S e h) fun v H1 ⟨ρ1, G1, x, p1, s1, S1, e1, r1, h1⟩ => ?_
  by_cases hl : isLst x G1 = true
  · rw [if_pos hl] at h1
    exact ⟨isLst_ok S1 r1 hl, tG_mono (step (rel := RUs (kz X Z)) S1 e1 h1) fun w H2 ⟨ρ2, G2, y, p2, s2, S2, e2, r2, h2⟩ => om _ _ _ _ _ _ _ _ _ S2 (r1.mono p2 s2) r2 h2⟩
  · rw [if_neg hl] at h1; exact h1.elim
theorem fmeth0 (om : OpM (kz X Z) r g) (slot : Slot "list" name id) (hty : typeOf (.builtin id) = pure (.type "method_descriptor")) (hm : MtR X id r) (ho : FE X Z W o fo)
    (hbase : attributeBase o name X.env (eval o X.env) = eval o X.env := by rfl) (hline : (apos.endLine == cpos.line) = true := by rfl) : FE X Z W (.Call (.Attribute o name apos) [] [] cpos) (eMeth g fo aNil) := by
  refine PEimp (pe_bm0 PySem.F.plainAttrs_list slot hty hm ho hbase hline) fun σ H Q ⟨ρ, G, env, S, e, h⟩ => ?_
  refine tG_mono (step S e h) fun v H1 ⟨ρ1, G1, x, p1, s1, S1, e1, r1, h1⟩ => ?_
  by_cases hl : isLst x G1 = true
  · rw [if_pos hl] at h1
    exact ⟨isLst_ok S1 r1 hl, om _ _ _ _ _ _ _ _ _ S1 r1 .nil h1⟩
  · rw [if_neg hl] at h1; exact h1.elim
end
end FL

set_option Elab.async false
set_option linter.all false
set_option maxRecDepth 100000
set_option maxHeartbeats 4000000
set_option autoImplicit false
namespace FL
open PySem PySem.Spec L2

/-! ### list comprehensions -/
def compN (nth : Nat → Gp → Option (Option U)) (gf : U → Ev → Gp → R Ev) (ft : Ev → Gp → R Bool) (fe : Ev → Gp → R U) (l : Nat) (env0 : Ev) : Nat → Nat → Gp → R U
  | 0, _, _ => .bad
  | n + 1, i, G => match nth i G with
    | none => .bad
    | some none => .ok (.ref l) G
    | some (some u) => (gf u env0 G).bindN fun env1 G1 => (ft env1 G1).bindN fun b G2 => if b = true then (fe env1 G2).bindN fun y G3 => match G3[l]? with
        | some (.lst acc) => if acc.length < 16777216 then compN nth gf ft fe l env0 n (i + 1) (G3.set l (.lst (acc ++ [y]))) else .bad
        | _ => .bad
      else compN nth gf ft fe l env0 n (i + 1) G2
def compL (gf : U → Ev → Gp → R Ev) (ft : Ev → Gp → R Bool) (fe : Ev → Gp → R U) (l : Nat) (env0 : Ev) : List U → Gp → R U
  | [], G => .ok (.ref l) G
  | u :: us, G => (gf u env0 G).bindN fun env1 G1 => (ft env1 G1).bindN fun b G2 => if b = true then (fe env1 G2).bindN fun y G3 => match G3[l]? with
        | some (.lst acc) => if acc.length < 16777216 then compL gf ft fe l env0 us (G3.set l (.lst (acc ++ [y]))) else .bad
        | _ => .bad
      else compL gf ft fe l env0 us G2
def wipeE (env : Ev) : List Nat → Ev
  | [] => env
  | v :: vs => (wipeE env vs).set v none
def eComp (own : List Nat) (fi : Ev → Gp → R Src) (gf : U → Ev → Gp → R Ev) (ft : Ev → Gp → R Bool) (fe : Ev → Gp → R U) : Ev → Gp → R U := fun env G => (fi env G).bind fun src G1 => match src with
  | .items xs => compL gf ft fe G1.length (wipeE env own) xs (G1 ++ [.lst []])
  | .live n nth => compN nth gf ft fe G1.length (wipeE env own) n 0 (G1 ++ [.lst []])
theorem compL_drop {gf : U → Ev → Gp → R Ev} {ft : Ev → Gp → R Bool} {fe : Ev → Gp → R U} {l : Nat} {env0 : Ev} {xs : List U} : ∀ (m i : Nat) (G : Gp), m = xs.length + 1 - i → i ≤ xs.length → compN (fun i _ => some xs[i]?) gf ft fe l env0 m i G = compL gf ft fe l env0 (xs.drop i) G := by
  intro m
  induction m with
  | zero => intro i G h1 h2; omega
  | succ m ih =>
    intro i G h1 h2
    by_cases hi : i < xs.length
    · have e : xs.drop i = xs[i] :: xs.drop (i + 1) := List.drop_eq_getElem_cons hi
      rw [e]
      have ih' : ∀ G, compN (fun i _ => some xs[i]?) gf ft fe l env0 m (i + 1) G = compL gf ft fe l env0 (xs.drop (i + 1)) G := fun G => ih (i + 1) G (by omega) hi
      unfold compN compL
      simp only [List.getElem?_eq_getElem hi, ih']
    · have e : i = xs.length := by omega
      subst e
      rw [List.drop_length]
      unfold compN compL
      simp only [List.getElem?_eq_none (Nat.le_refl _)]
theorem eComp_run {src : Src} {gf : U → Ev → Gp → R Ev} {ft : Ev → Gp → R Bool} {fe : Ev → Gp → R U} {l : Nat} {env : Ev} {G1 : Gp} : (match src with
  | .items xs => compL gf ft fe l env xs G1
  | .live n nth => compN nth gf ft fe l env n 0 G1) = compN src.nth gf ft fe l env src.fuel 0 G1 := by
  cases src with
  | items xs =>
    show compL gf ft fe l env xs G1 = compN (fun i _ => some xs[i]?) gf ft fe l env (xs.length + 1) 0 G1
    rw [compL_drop (xs.length + 1) 0 G1 (by omega) (Nat.zero_le _)]
    rfl
  | live n nth => rfl
/-- no exception is let out -/
def W0 : WX := fun _ _ _ _ => False
section
variable {K : KZ} {ρ : List Addr} {H : Hp}
theorem REq.wipe (hZ : K.Z.er = none) {env : Ev} {σ : St} (e : REq K ρ H env σ) : ∀ vs : List Nat, REq K ρ H (wipeE env vs) (wipe σ vs)
  | [] => e
  | v :: vs => (REq.wipe hZ e vs).unset hZ v
theorem wipe_set {σ : St} {i : Nat} {x : Option V} : ∀ {vs : List Nat}, i ∈ vs → wipe (σ.set i x) vs = wipe σ vs
  | v :: vs, h => by
    by_cases hi : i ∈ vs
    · show (wipe (σ.set i x) vs).set v none = (wipe σ vs).set v none
      rw [wipe_set hi]
    · have hv : v = i := by
        rcases List.mem_cons.mp h with e | e
        · exact e.symm
        · exact absurd e hi
      subst hv
      have out : ∀ (ws : List Nat), v ∉ ws → wipe (σ.set v x) ws = (wipe σ ws).set v x := by
        intro ws
        induction ws with
        | nil => intro _; rfl
        | cons w ws ih =>
          intro hw
          show (wipe (σ.set v x) ws).set w none = ((wipe σ ws).set w none).set v x
          rw [ih fun z => hw (List.mem_cons_of_mem _ z), List.set_comm _ _ (fun z => hw (by rw [z]; exact List.mem_cons_self))]
      show (wipe (σ.set v x) vs).set v none = (wipe σ vs).set v none
      rw [out vs hi, List.set_set]
end
/-- a target whose stores lie among vs -/
def tgW (K : KZ) (gf : U → Ev → Gp → R Ev) (vs : List Nat) : TG := fun v σ H Q => ∃ ρ G env u, Sim K ρ G H ∧ REq K ρ H env σ ∧ RU K ρ H u v ∧ match gf u env G with
  | .ok env' G' => ∀ σ' ρ' H', ρ <+: ρ' → Stb K H H' → Sim K ρ' G' H' → REq K ρ' H' env' σ' → wipe σ' vs = wipe σ vs → Q σ' H'
  | _ => False
def tgWs (K : KZ) (gs : List U → Ev → Gp → R Ev) (vs : List Nat) : TGs := fun ws σ H Q => ∃ ρ G env us, Sim K ρ G H ∧ REq K ρ H env σ ∧ RUs K ρ H us ws ∧ match gs us env G with
  | .ok env' G' => ∀ σ' ρ' H', ρ <+: ρ' → Stb K H H' → Sim K ρ' G' H' → REq K ρ' H' env' σ' → wipe σ' vs = wipe σ vs → Q σ' H'
  | _ => False
abbrev FGw (X : Cx) (Z : ZZ X.K) (e : Expr) (gf : U → Ev → Gp → R Ev) (vs : List Nat) : Prop := PG X e (tgW (kz X Z) gf vs)
abbrev FGws (X : Cx) (Z : ZZ X.K) (es : List Expr) (gs : List U → Ev → Gp → R Ev) (vs : List Nat) : Prop := PGs X es (tgWs (kz X Z) gs vs)
section
variable {X : Cx} {Z : ZZ X.K} {W : WX} {e : Expr} {es : List Expr} {pos : Pos} {vs : List Nat}
theorem fwname {i : Nat} {x : Str} (hN : X.N.Nodup) (hi : X.N[i]? = some x) (hx : Loc X.env.scope x) (hv : i ∈ vs := by decide) (hf : X.fn x = true ∨ X.env.scope.names.lookup x = some .local := by first | exact .inl rfl | exact .inr rfl | assumption) : FGw X Z (.Name x pos) (gNm i) vs :=
  PGimp (pg_name hN hi hx hf) fun v σ H Q ⟨ρ, G, env, u, S, e, r, h⟩ => h _ ρ H pre_refl Stb.refl S (e.set r i) (wipe_set hv)
theorem fwnil : FGws X Z [] gNil vs := by
  refine PGsimp pgs_nil fun ws σ H Q ⟨ρ, G, env, us, S, e, r, h⟩ => ?_
  cases r with
  | nil => exact ⟨rfl, h _ ρ H pre_refl Stb.refl S e rfl⟩
  | cons _ _ => exact h.elim
theorem fwcons {g : U → Ev → Gp → R Ev} {gs : List U → Ev → Gp → R Ev} (h1 : FGw X Z e g vs) (h2 : FGws X Z es gs vs) (hs : (assignEach (e :: es) X.env).map (·.2) = assign e X.env :: (assignEach es X.env).map (·.2) := by rfl) : FGws X Z (e :: es) (gCons g gs) vs := by
  refine PGsimp (pgs_cons h1 h2 hs) fun ws σ H Q ⟨ρ, G, env, us, S, e, r, h⟩ => ?_
  cases r with
  | nil => exact h.elim
  | @cons x v xs ws hx hr =>
    refine ⟨v, ws, rfl, ρ, G, env, x, S, e, hx, ?_⟩
    have h : match (g x env G).bind fun env' G' => gs xs env' G' with
      | .ok env' G' => ∀ σ' ρ' H', ρ <+: ρ' → Stb (kz X Z) H H' → Sim (kz X Z) ρ' G' H' → REq (kz X Z) ρ' H' env' σ' → wipe σ' vs = wipe σ vs → Q σ' H'
      | _ => False := h
    cases q : g x env G with
    | ok env' G' =>
      rw [q] at h
      intro σ1 ρ1 H1 p1 s1 S1 e1 w1
      refine ⟨ρ1, G', env', xs, S1, e1, hr.mono p1 s1, ?_⟩
      have h : match gs xs env' G' with
        | .ok env' G' => ∀ σ' ρ' H', ρ <+: ρ' → Stb (kz X Z) H H' → Sim (kz X Z) ρ' G' H' → REq (kz X Z) ρ' H' env' σ' → wipe σ' vs = wipe σ vs → Q σ' H'
        | _ => False := h
      cases q2 : gs xs env' G' with
      | ok env2 G2 => rw [q2] at h; exact fun σ' ρ' H' p s S' e' w => h σ' ρ' H' (p1.trans p) (s1.trans s) S' e' (w.trans w1)
      | exc c fs G2 => rw [q2] at h; exact h.elim
      | bad => rw [q2] at h; exact h.elim
    | exc c fs G' => rw [q] at h; exact h.elim
    | bad => rw [q] at h; exact h.elim
theorem fwtup {k n : Nat} {gs : List U → Ev → Gp → R Ev} (hc : X.calm = true) (h : FGws X Z es gs vs) (hn : (assignEach es X.env).length = n := by rfl) (hst : (assignEach es X.env).findIdx? (·.1) = none := by rfl) : FGw X Z (.Tuple es k pos) (gTup gs n) vs := by
  refine PGimp (pg_tup hc h hn hst) fun v σ H Q ⟨ρ, G, env, u, S, e, r, h⟩ => ?_
  cases r with
  | @tup xs ws a ht hr =>
    have h : match (if xs.length = n then gs xs env G else .bad : R Ev) with
      | .ok env' G' => ∀ σ' ρ' H', ρ <+: ρ' → Stb (kz X Z) H H' → Sim (kz X Z) ρ' G' H' → REq (kz X Z) ρ' H' env' σ' → wipe σ' vs = wipe σ vs → Q σ' H'
      | _ => False := h
    by_cases hl : xs.length = n
    · rw [if_pos hl] at h
      exact ⟨a, ws, rfl, ht.sq, by rw [← hr.len]; exact hl, ρ, G, env, xs, S, e, hr, h⟩
    · rw [if_neg hl] at h; exact h.elim
  | _ => exact h.elim
/-- the tests of a comprehension -/
abbrev FTs (X : Cx) (Z : ZZ X.K) (ifs : List Expr) (f : Ev → Gp → R Bool) : Prop := PTs X ifs (ttF (kz X Z) W0 f)
theorem PTsimp {ifs : List Expr} {t t' : TT} (h : PTs X ifs t) (i : ∀ σ H Q, t' σ H Q → t σ H Q) : PTs X ifs t' := ⟨fun pins s σ H Q I q => h.run pins s σ H Q I (i σ H Q q)⟩
def tYesB : Ev → Gp → R Bool := fun _ G => .ok true G
theorem ftsnil : FTs X Z [] tYesB := PTsimp pts_nil fun σ H Q ⟨ρ, G, env, S, e, h⟩ => Post.end_ (rel := fun _ _ (a b : Bool) => a = b) h S rfl
theorem ftsone {c : Expr} {f : Ev → Gp → R Bool} (h : FT X Z W0 c f) : FTs X Z [c] f := pts_one h
end
section
variable {X : Cx} {Z : ZZ X.K} {W : WX}
theorem tLc_of (hZ : Z.er = none) {fi : Ev → Gp → R Src} {gf : U → Ev → Gp → R Ev} {ft : Ev → Gp → R Bool} {fe : Ev → Gp → R U} {own : List Nat} (σ : St) (H : Hp) (Q : VK) (h : tF (kz X Z) W (eComp own fi gf ft fe) σ H Q) :
    tLc (tiF (kz X Z) W fi) (tgW (kz X Z) gf own) (ttF (kz X Z) W0 ft) (tF (kz X Z) W0 fe) own σ H Q := by
  obtain ⟨ρ, G, env, S, e, h⟩ := h
  refine ⟨ρ, G, env, S, e, ?_⟩
  unfold eComp at h
  cases q : fi env G with
  | bad => rw [q] at h; exact h
  | exc c fs G1 => rw [q] at h; exact h
  | ok src G1 =>
    rw [q] at h
    have h : Post (kz X Z) (RU (kz X Z)) ρ H (compN src.nth gf ft fe G1.length (wipeE env own) src.fuel 0 (G1 ++ [.lst []])) Q fun c d H' => W c d σ H' := by rw [← eComp_run]; exact h
    intro ρ1 H1 J p1 s1 S1 wk D hD
    have sn : Stb (kz X Z) H1 (upd H1 D (.lst [])) := stb_new hD
    have Sn : Sim (kz X Z) (ρ1 ++ [D]) (G1 ++ [.lst []]) (upd H1 D (.lst [])) := S1.new hD (show RUs (kz X Z) _ _ [] [] from .nil)
    have hl : ∀ ρ2, (ρ1 ++ [D]) <+: ρ2 → ρ2[G1.length]? = some D := fun ρ2 p => pre_get p (by rw [← S1.len]; simp)
    refine ⟨fun i m H2 => ∃ ρ2 G2, (ρ1 ++ [D]) <+: ρ2 ∧ Stb (kz X Z) (upd H1 D (.lst [])) H2 ∧ Sim (kz X Z) ρ2 G2 H2 ∧ Post (kz X Z) (RU (kz X Z)) ρ2 H2 (compN src.nth gf ft fe G1.length (wipeE env own) m i G2) Q fun c d H' => W c d σ H',
      ⟨src.fuel, ρ1 ++ [D], _, pre_refl, Stb.refl, Sn, Post.lift h (p1.trans ⟨[D], rfl⟩) (s1.trans sn)⟩, ?_⟩
    rintro i m H2 ⟨ρ2, G2, p2, s2, S2, h2⟩
    have pp : ρ1 <+: ρ2 := List.IsPrefix.trans ⟨[D], rfl⟩ p2
    have ss : Stb (kz X Z) H1 H2 := sn.trans s2
    cases m with
    | zero => exact h2.elim
    | succ m =>
      have w := wk ρ2 H2 G2 i pp ss S2
      unfold compN at h2
      have en : src.nth i G2 = src.at_ i G2 := rfl
      rw [en] at h2
      cases qn : src.at_ i G2 with
      | none => rw [qn] at h2; exact h2.elim
      | some o =>
        rw [qn] at h2 w
        cases o with
        | none => exact .inl ⟨w, h2.end_ S2 (.ref (hl ρ2 p2))⟩
        | some u =>
          refine .inr ⟨w.1, fun H' => ∃ ρ3 G3, (ρ1 ++ [D]) <+: ρ3 ∧ Stb (kz X Z) (upd H1 D (.lst [])) H' ∧ Sim (kz X Z) ρ3 G3 H' ∧ Post (kz X Z) (RU (kz X Z)) ρ3 H' (compN src.nth gf ft fe G1.length (wipeE env own) m (i + 1) G3) Q fun c d H' => W c d σ H',
            fun H' z => ⟨m, Nat.lt_succ_self m, z⟩, fun x H3 y => ?_⟩
          obtain ⟨s3, S3, rx⟩ := w.2 x H3 y
          have h3 : Post (kz X Z) (RU (kz X Z)) ρ2 H3 ((gf u (wipeE env own) G2).bindN fun env1 G1' => (ft env1 G1').bindN fun b G2' => if b = true then (fe env1 G2').bindN fun y G3 => match G3[G1.length]? with
              | some (.lst acc) => if acc.length < 16777216 then compN src.nth gf ft fe G1.length (wipeE env own) m (i + 1) (G3.set G1.length (.lst (acc ++ [y]))) else .bad
              | _ => .bad
            else compN src.nth gf ft fe G1.length (wipeE env own) m (i + 1) G2') Q fun c d H' => W c d σ H' := Post.lift h2 pre_refl s3
          have ew : REq (kz X Z) ρ2 H3 (wipeE env own) (wipe σ own) := ((e.mono (p1.trans pp) ((s1.trans ss).trans s3))).wipe hZ own
          refine ⟨ρ2, G2, wipeE env own, u, S3, ew, rx, ?_⟩
          cases qg : gf u (wipeE env own) G2 with
          | bad => rw [qg] at h3; exact h3
          | exc c fs G' => rw [qg] at h3; exact h3
          | ok env3 G3 =>
            rw [qg] at h3
            intro σ4 ρ4 H4 p4 s4 S4 e4 w4
            have idem : ∀ τ : St, wipe (wipe τ own) own = wipe τ own := by
              intro τ
              have hh : ∀ (ws : List Nat), (∀ v ∈ ws, v ∈ own) → wipe (wipe τ ws) own = wipe τ own := by
                intro ws
                induction ws with
                | nil => intro _; rfl
                | cons v ws ih =>
                  intro hv
                  show wipe ((wipe τ ws).set v none) own = _
                  rw [wipe_set (hv v List.mem_cons_self)]
                  exact ih fun x hx => hv x (List.mem_cons_of_mem _ hx)
              exact hh own fun _ h => h
            refine ⟨w4.trans (idem σ), ?_⟩
            have h4 : Post (kz X Z) (RU (kz X Z)) ρ4 H4 ((ft env3 G3).bindN fun b G2' => if b = true then (fe env3 G2').bindN fun y G3 => match G3[G1.length]? with
                | some (.lst acc) => if acc.length < 16777216 then compN src.nth gf ft fe G1.length (wipeE env own) m (i + 1) (G3.set G1.length (.lst (acc ++ [y]))) else .bad
                | _ => .bad
              else compN src.nth gf ft fe G1.length (wipeE env own) m (i + 1) G2') Q fun c d H' => W c d σ H' := Post.lift h3 p4 s4
            refine ⟨ρ4, G3, env3, S4, e4, ?_⟩
            cases qt : ft env3 G3 with
            | bad => rw [qt] at h4; exact h4
            | exc c fs G' => rw [qt] at h4; exact h4.elim
            | ok b G5 =>
              rw [qt] at h4
              intro b' ρ5 H5 p5 s5 S5 r5
              have r5 : b = b' := r5
              subst r5
              have h5 : Post (kz X Z) (RU (kz X Z)) ρ5 H5 (if b = true then (fe env3 G5).bindN fun y G3 => match G3[G1.length]? with
                  | some (.lst acc) => if acc.length < 16777216 then compN src.nth gf ft fe G1.length (wipeE env own) m (i + 1) (G3.set G1.length (.lst (acc ++ [y]))) else .bad
                  | _ => .bad
                else compN src.nth gf ft fe G1.length (wipeE env own) m (i + 1) G5) Q fun c d H' => W c d σ H' := Post.lift h4 p5 s5
              cases b with
              | false => exact ⟨ρ5, G5, p2.trans (p4.trans p5), (s2.trans s3).trans (s4.trans s5), S5, h5⟩
              | true =>
                rw [if_pos rfl]
                rw [if_pos rfl] at h5
                refine ⟨ρ5, G5, env3, S5, e4.mono p5 s5, ?_⟩
                cases qe : fe env3 G5 with
                | bad => rw [qe] at h5; exact h5
                | exc c fs G' => rw [qe] at h5; exact h5.elim
                | ok yv G6 =>
                  rw [qe] at h5
                  intro yV ρ6 H6 p6 s6 S6 r6
                  have h6 : Post (kz X Z) (RU (kz X Z)) ρ6 H6 (match G6[G1.length]? with
                    | some (.lst acc) => if acc.length < 16777216 then compN src.nth gf ft fe G1.length (wipeE env own) m (i + 1) (G6.set G1.length (.lst (acc ++ [yv]))) else .bad
                    | _ => .bad) Q fun c d H' => W c d σ H' := Post.lift h5 p6 s6
                  have pq : (ρ1 ++ [D]) <+: ρ6 := ((p2.trans p4).trans p5).trans p6
                  cases ql : G6[G1.length]? with
                  | none => rw [ql] at h6; exact h6.elim
                  | some ob =>
                    rw [ql] at h6
                    cases ob with
                    | lst acc =>
                      simp only at h6
                      by_cases hz : acc.length < 16777216
                      · rw [if_pos hz] at h6
                        obtain ⟨vs, ev, rv⟩ := S6.list (hl ρ6 pq) ql
                        obtain ⟨S7, s7⟩ := S6.setList (xs := acc) (hl ρ6 pq) ev (rv.append (.cons r6 .nil))
                        exact ⟨vs, ev, by rw [← rv.len, line_eq]; exact hz, ρ6, _, pq, (((s2.trans s3).trans s4).trans (s5.trans s6)).trans s7, S7, Post.lift h6 pre_refl s7⟩
                      · rw [if_neg hz] at h6; exact h6.elim
                    | _ => exact h6.elim
theorem fcomp {elt tg iter : Expr} {ifs : List Expr} {scope : Scope} {own : List (Str × Nat)} {pos : Pos} {fi : Ev → Gp → R Src} {gf : U → Ev → Gp → R Ev} {ft : Ev → Gp → R Bool} {fe : Ev → Gp → R U} (hZ : Z.er = none) (hc : X.calm = true) (hN : X.N.Nodup) (hi : FI X Z W tg iter fi) (ok : BlkOk X.N X.env.scope scope own)
    (hg : ∀ (s : Shared) (H : Hp) (C : Addr) (cl : List (Str × Addr)) (fp : List Addr), FGw (X.blk s H scope (compEnvC scope cl C X.env) fp) Z tg gf (own.map (·.2))) (ht : ∀ (s : Shared) (H : Hp) (C : Addr) (cl : List (Str × Addr)) (fp : List Addr), FTs (X.blk s H scope (compEnvC scope cl C X.env) fp) Z ifs ft)
    (he : ∀ (s : Shared) (H : Hp) (C : Addr) (cl : List (Str × Addr)) (fp : List Addr), FE (X.blk s H scope (compEnvC scope cl C X.env) fp) Z W0 elt fe) (hs : ∀ x, foldedSetIterable iter X.env x = pure x := by intro _; rfl) :
    FE X Z W (.ListComp elt [⟨tg, iter, ifs, 0⟩] scope pos) (eComp (own.map (·.2)) fi gf ft fe) := PEimp (pe_lc hc hN hi ok hg ht he hs) (tLc_of hZ)
theorem fsetcomp {i : Nat} {y : Str} {py : Pos} {elt tg iter : Expr} {ifs : List Expr} {scope : Scope} {own : List (Str × Nat)} {pos spos : Pos} {fi : Ev → Gp → R Src} {gf : U → Ev → Gp → R Ev} {ft : Ev → Gp → R Bool} {fe : Ev → Gp → R U} (hZ : Z.er = none) (hc : X.calm = true) (hN : X.N.Nodup) (hy : X.N[i]? = some y) (hyl : X.env.scope.names.lookup y = some .local)
    (hsw : swapsWith (.ListComp elt [⟨tg, iter, ifs, 0⟩] scope pos) (some (.Name y py)) spos.line X.env = pure true) (hi : FI X Z W tg iter fi) (ok : BlkOk X.N X.env.scope scope own)
    (hg : ∀ (s : Shared) (H : Hp) (C : Addr) (cl : List (Str × Addr)) (fp : List Addr), FGw (X.blk s H scope (compEnvC scope cl C X.env) fp) Z tg gf (own.map (·.2))) (ht : ∀ (s : Shared) (H : Hp) (C : Addr) (cl : List (Str × Addr)) (fp : List Addr), FTs (X.blk s H scope (compEnvC scope cl C X.env) fp) Z ifs ft)
    (he : ∀ (s : Shared) (H : Hp) (C : Addr) (cl : List (Str × Addr)) (fp : List Addr), FE (X.blk s H scope (compEnvC scope cl C X.env) fp) Z W0 elt fe) (hs : ∀ x, foldedSetIterable iter X.env x = pure x := by intro _; rfl) :
    FS X Z W (.Assign [.Name y py] (.ListComp elt [⟨tg, iter, ifs, 0⟩] scope pos) spos) (sAsg (eComp (own.map (·.2)) fi gf ft fe) (gNm i)) := by
  refine PSimp (ps_setLc (te := tF (kz X Z) W0 fe) (tt := ttF (kz X Z) W0 ft) (g := tgW (kz X Z) gf (own.map (·.2))) hc hN hy hyl hsw hi ok hg ht he hs) fun D σ H ⟨ρ, G, env, S, e, h⟩ => ?_
  refine tLc_of (W := W) hZ σ H _ ?_
  exact tG_mono (stepS S e h) fun v H1 ⟨ρ1, G1, x, p1, s1, S1, e1, r1, h1⟩ => h1 _ _ _ pre_refl Stb.refl S1 (e1.set r1 i)
end
end FL

set_option Elab.async false
set_option linter.all false
set_option maxRecDepth 100000
set_option maxHeartbeats 4000000
set_option autoImplicit false
namespace FL
open PySem PySem.Spec L2

/-! ### defs -/
def zP {K : PySem.W.Frag} (Z : ZZ K) : KZ := ⟨K, Z⟩
/-- the promise of a def: it does what F tells -/
def spF (K : PySem.W.Frag) (n : Nat) (F : List U → Gp → R U) : Sp := fun vs H Q E => vs.length = n ∧ ∃ (Z : ZZ K) (ρ : List Addr) (G : Gp) (us : List U), Z.er = none ∧ Sim ⟨K, Z⟩ ρ G H ∧ RUs ⟨K, Z⟩ ρ H us vs ∧ Post ⟨K, Z⟩ (RU ⟨K, Z⟩) ρ H (F us G) Q E
/-- a def by its body: n parameters, m names in all -/
def defF (n m : Nat) (body : Ev → Gp → SR) (us : List U) (G : Gp) : R U := if us.length = n then (match body (startE m us) G with
  | .nx _ G' => .ok .non G'
  | .ret u G' => .ok u G'
  | .exc c fs _ G' => .exc c fs G'
  | _ => .bad) else .bad
abbrev FnF (P : Program) (w : World) (K : PySem.W.Frag) (mg : Str → Option Value) (base : Heap) (k : Nat) (f : Addr) (fd : FuncData) (ps : List Str) (F : List U → Gp → R U) : Prop := FnOk P w K mg base (CX P w) k f fd ps (spF K ps.length F)
section
variable {P : Program} {w : World} {K : PySem.W.Frag} {mg : Str → Option Value} {base : Heap}
/-- what an exception that leaves the def's body wants -/
def wE (E : XK) : WX := fun cls d _ H => E cls d H
theorem fnF_of {x qual : Str} {params : Arguments} {body : List Stmt} {scope : Scope} {kws : List (Str × V)} {dvs : List V} {f : Addr} {fd : FuncData} {N ps : List Str} {k : Nat} {g : Ev → Gp → SR} (F : FunD K x qual params body scope dvs kws f fd) (S : FnScope N ps scope)
    (hb : ∀ (Z : ZZ K) (hZ : Z.er = none) (X : Cx) (cdv : Value) (A : Around) (outer : List Env) (s : Shared) (H : Hp) (E : XK), X = cxOf (CX P w) P w K mg base N qual scope f cdv A outer s H E → Room k X.A →
      FSs (cxOf (CX P w) P w K mg base N qual scope f cdv A outer s H E) Z (wE E) body g) : FnF P w K mg base (k + 1) f fd ps (defF ps.length N.length g) := by
  refine F.ok S (fun vs H Q E h => h.1) fun cdv A outer s H vs Q E hr h => ?_
  obtain ⟨hl, Z, ρ, G, us, hZ, Sm, r, h⟩ := h
  refine ⟨_, hb Z hZ _ cdv A outer s H E rfl hr, ρ, G, startE N.length us, Sm, REq.start hZ r N, ?_⟩
  unfold defF at h
  rw [if_pos (by rw [r.len]; exact hl)] at h
  cases q : g (startE N.length us) G with
  | nx e G' => rw [q] at h; exact fun σ' ρ' H' p s S' e' => h .non ρ' H' p s S' .non
  | ret u G' => rw [q] at h; exact h
  | brk e G' => rw [q] at h; exact h.elim
  | ct e G' => rw [q] at h; exact h.elim
  | exc c fs e G' => rw [q] at h; exact fun σ' d vfs ρ' H' p s S' e' q1 q2 => h d vfs ρ' H' p s S' q1 q2
  | bad => rw [q] at h; exact h.elim
end
section
variable {X : Cx} {Z : ZZ X.K} {W : WX} {k n : Nat} {f : Addr} {fd : FuncData} {ps : List Str} {x : Str} {p pos : Pos} {e : Expr} {es : List Expr} {F : List U → Gp → R U} {fa : Ev → Gp → R (List U)}
theorem passesAt_tk (tk : Takes X W) (σ : St) : PassesAt (CX X.prog X.w) X σ (fun c d H => W c d σ H) := fun pins H s e s' I c => tk e s' (XE.of_call I (fun _ _ _ h => h) c)
/-- a call whose F tells nothing bad has the right number of arguments -/
def Ar (n : Nat) (F : List U → Gp → R U) : Prop := ∀ us G, us.length ≠ n → F us G = .bad
theorem ar_defF {n m : Nat} {g : Ev → Gp → SR} : Ar n (defF n m g) := fun us G h => if_neg h
theorem fcall (hZ : Z.er = none) (Fn : FnF X.prog X.w X.K X.mg X.base k f fd ps F) (ar : Ar ps.length F) (hr : Room k X.A) (tk : Takes X W) (hm : X.mg x = some (.ref f)) (hk : PySem.W.keepIn X.K (.ref f) = true) (hb : Binds X.K fd ps []) (ha : FA X Z W (e :: es) fa) (hg : Gl X x := by rfl)
    (hdb : (x == ("__debug__" : Str)) = false := by decide) (he : starEach (e :: es) X.env = (false, eval e X.env) :: starEach es X.env := by rfl) (hpl : (backTo pos (starEach es X.env)).any (·.1) = false := by rfl) :
    FE X Z W (.Call (.Name x p) (e :: es) [] pos) (eCall F fa) := by
  refine PEimp (pe_callSD (dvs := []) (ds := []) (E := fun σ c d H => W c d σ H) Fn hr hg hm hk hb .nil (passesAt_tk tk) ha hdb he hpl) fun σ H Q ⟨ρ, G, env, S, e, h⟩ => ?_
  refine tG_mono (step (rel := RUs (kz X Z)) S e h) fun vs H1 ⟨ρ1, G1, us, p1, s1, S1, e1, r1, h1⟩ => ?_
  rw [List.append_nil]
  refine ⟨?_, Z, ρ1, G1, us, hZ, S1, r1, h1⟩
  rw [← r1.len]
  by_cases hl : us.length = ps.length
  · exact hl
  · rw [ar us G1 hl] at h1; exact h1.elim
theorem fcall0 (hZ : Z.er = none) (Fn : FnF X.prog X.w X.K X.mg X.base k f fd ps F) (ar : Ar ps.length F) (hr : Room k X.A) (tk : Takes X W) (hm : X.mg x = some (.ref f)) (hk : PySem.W.keepIn X.K (.ref f) = true) (hb : Binds X.K fd ps []) (hg : Gl X x := by rfl)
    (hdb : (x == ("__debug__" : Str)) = false := by decide) : FE X Z W (.Call (.Name x p) [] [] pos) (eCall F aNil) := by
  refine ⟨fun pins s σ H Q I h => ?_⟩
  obtain ⟨ρ, G, env, S, e, h⟩ := h
  have h : Post (kz X Z) (RU (kz X Z)) ρ H (F [] G) Q fun c d H' => W c d σ H' := h
  refine wpAny_Call_Name_kw (ld_glob I hg hm ?_ hdb)
  refine PySem.W.callWith_K0 I.kIn hk (run_fnSD (us := []) (vs := []) (dvs := []) (E := fun σ c d H => W c d σ H) Fn hr hb .nil (passesAt_tk tk σ) I .nil ?_)
  refine ⟨?_, Z, ρ, G, [], hZ, S, .nil, h⟩
  by_cases hl : ([] : List U).length = ps.length
  · exact hl
  · rw [ar [] G hl] at h; exact h.elim
/-! keywords -/
def pickL {α : Type} (idx : List Nat) (xs : List α) : List α := idx.filterMap fun i => xs[i]?
def gK {α : Type} (a b : Nat) (idx : List Nat) (us ws : List α) : List α := if us.length = a ∧ ws.length = b then pickL idx (us ++ ws) else []
theorem pick_vals {xs : List V} {us : List Value} (r : Vals xs us) : ∀ idx : List Nat, Vals (pickL idx xs) (pickL idx us)
  | [] => .nil
  | i :: r' => by
    have ih := pick_vals r r'
    unfold pickL at ih ⊢
    rw [List.filterMap_cons, List.filterMap_cons]
    cases q : xs[i]? with
    | none => rw [r.none_of q]; exact ih
    | some v =>
      obtain ⟨u, e, ru⟩ := r.get q
      rw [e]
      exact .cons ru ih
theorem pick_rel {K : KZ} {ρ : List Addr} {H : Hp} {us : List U} {xs : List V} (r : RUs K ρ H us xs) : ∀ idx : List Nat, RUs K ρ H (pickL idx us) (pickL idx xs)
  | [] => .nil
  | i :: r' => by
    have ih := pick_rel r r'
    unfold pickL at ih ⊢
    rw [List.filterMap_cons, List.filterMap_cons]
    cases q : us[i]? with
    | none =>
      have q2 : xs[i]? = none := List.getElem?_eq_none_iff.mpr (by rw [← r.len]; exact List.getElem?_eq_none_iff.mp q)
      rw [q2]; exact ih
    | some v =>
      obtain ⟨u, e, ru⟩ := r.getU q
      rw [e]
      exact .cons ru ih
theorem gK_vals {a b : Nat} {idx : List Nat} {xs ys : List V} {us ws : List Value} (r : Vals xs us) (q : Vals ys ws) : Vals (gK a b idx xs ys) (gK a b idx us ws) := by
  unfold gK
  rw [r.length, q.length]
  split
  · exact pick_vals (r.append q) idx
  · exact .nil
theorem gK_rel {K : KZ} {ρ : List Addr} {H : Hp} {a b : Nat} {idx : List Nat} {xs ys : List U} {us ws : List V} (r : RUs K ρ H xs us) (q : RUs K ρ H ys ws) : RUs K ρ H (gK a b idx xs ys) (gK a b idx us ws) := by
  unfold gK
  rw [r.len, q.len]
  split
  · exact pick_rel (r.append q) idx
  · exact .nil
abbrev FK (X : Cx) (Z : ZZ X.K) (W : WX) (kws : List Keyword) (f : Ev → Gp → R (List U)) : Prop := PK X kws (taF (kz X Z) W f)
theorem PKimp {kws : List Keyword} {t t' : TA} (h : PK X kws t) (i : ∀ σ H Q, t' σ H Q → t σ H Q) : PK X kws t' := ⟨fun pos pins s σ H Q I q => h.run pos pins s σ H Q I (i σ H Q q)⟩
theorem fknil : FK X Z W [] aNil := by
  refine PKimp pk_nil fun σ H Q ⟨ρ, G, env, S, e, h⟩ => ?_
  exact Post.end_ (a := ([] : List U)) h S .nil
theorem fkcons {e : Expr} {kws : List Keyword} {nm : Option Str} {kpos : Pos} {f : Ev → Gp → R U} {fs : Ev → Gp → R (List U)} (ha : FE X Z W e f) (hr : FK X Z W kws fs) : FK X Z W (⟨nm, e, kpos⟩ :: kws) (aCons f fs) := by
  refine PKimp (pk_cons ha hr) fun σ H Q ⟨ρ, G, env, S, e, h⟩ => ?_
  refine tG_mono (step S e h) fun v H1 ⟨ρ1, G1, x, p1, s1, S1, e1, r1, h1⟩ => ?_
  exact tG_mono (step S1 e1 h1) fun w H2 ⟨ρ2, G2, y, p2, s2, S2, e2, r2, h2⟩ => h2.end_ S2 (.cons (r1.mono p2 s2) r2)
def eCallK (F : List U → Gp → R U) (a b : Nat) (idx : List Nat) (fa fk : Ev → Gp → R (List U)) : Ev → Gp → R U := fun env G => (fa env G).bind fun us G1 => (fk env G1).bind fun ws G2 => F (gK a b idx us ws) G2
theorem run_fnkSD {ks : List Str} {g : List Value → List Value → List Value} {gV : List V → List V → List V} {CX0 : CXT} {sp : Sp} {E : XK} {pins : List (Addr × Obj)} {σ : St} {H : Hp} {s : Shared} {Q : VK} {us ws : List Value} {vs zs : List V} (F : FnOk X.prog X.w X.K X.mg X.base CX0 k f fd ps sp) (hr : Room k X.A) (hb : KBinds X.K fd ps ks g gV) (hx : PassesAt CX0 X σ E)
    (I : Inv X pins σ H s) (r : Vals vs us) (rz : Vals zs ws) (h : sp (gV vs zs) H Q E) : wpAny (model X.prog X.w) X.A (call (.ref f) us (ks.zip ws)) (EP X pins σ Q) X.xe s := by
  have r2 := hb.rel r rz
  have hl : (g us ws).length = ps.length := by rw [← r2.length]; exact F.len _ _ _ _ h
  refine wpAny_call (codeAny_mono (F.run X.A X.stack s H ⟨us, ks.zip ws⟩ (g us ws) (gV vs zs) Q E hr I.env0 (hb.to s us ws I.kIn hl) r2 h) fun r s' hq => ?_)
  cases r with
  | error e => exact hx pins H s e s' I hq
  | ok fl =>
    cases fl with
    | ret u => exact I.after hq
    | next => exact False.elim hq
    | brk => exact False.elim hq
    | cont => exact False.elim hq
theorem fcallK0 {ks : List Str} {b : Nat} {idx : List Nat} {kws : List Keyword} {fk : Ev → Gp → R (List U)} (hZ : Z.er = none) (Fn : FnF X.prog X.w X.K X.mg X.base k f fd ps F) (ar : Ar ps.length F) (hr : Room k X.A) (tk : Takes X W) (hm : X.mg x = some (.ref f)) (hk : PySem.W.keepIn X.K (.ref f) = true)
    (hb : KBinds X.K fd ps ks (gK 0 b idx) (gK 0 b idx)) (hkw : FK X Z W kws fk) (hg : Gl X x := by rfl) (hall : (backToKw pos (keywordEach kws X.env)).all (·.1.isSome) = true := by rfl) (hks : (backToKw pos (keywordEach kws X.env)).filterMap (·.1) = ks := by rfl)
    (hdb : (x == ("__debug__" : Str)) = false := by decide) (hpl : ((backTo pos (starEach ([] : List Expr) X.env)).any (·.1) || (backToKw pos (keywordEach kws X.env)).any (·.1.isNone)) = false := by rfl) :
    FE X Z W (.Call (.Name x p) [] kws pos) (eCallK F 0 b idx aNil fk) := by
  refine ⟨fun pins s σ H Q I h => ?_⟩
  obtain ⟨ρ, G, env, S, e, h⟩ := h
  refine wpAny_Call_Name_kw (ld_glob I hg hm ?_ hdb)
  have h : Post (kz X Z) (RU (kz X Z)) ρ H ((fk env G).bind fun ws G2 => F (gK 0 b idx [] ws) G2) Q fun c d H' => W c d σ H' := h
  refine PySem.W.callWith_KW0 I.kIn hk hall ?_ hpl
  refine thn (hkw.run pos pins s σ H _ I (step (rel := RUs (kz X Z)) S e h)) fun ws s2 ⟨zs, H2, I2, rz, ρ1, G1, us, p1, s1, S1, e1, r1, h1⟩ => ⟨I2.kIn, ?_⟩
  rw [hks]
  refine run_fnkSD (us := []) (vs := []) Fn hr hb (passesAt_tk tk σ) I2 .nil rz ?_
  have rr : RUs (kz X Z) ρ1 H2 (gK 0 b idx [] us) (gK 0 b idx [] zs) := gK_rel .nil r1
  refine ⟨?_, Z, ρ1, G1, _, hZ, S1, rr, h1⟩
  rw [← rr.len]
  by_cases hl : (gK 0 b idx [] us).length = ps.length
  · exact hl
  · rw [ar _ G1 hl] at h1; exact h1.elim
theorem fcallK {ks : List Str} {a b : Nat} {idx : List Nat} {kws : List Keyword} {fk : Ev → Gp → R (List U)} (hZ : Z.er = none) (Fn : FnF X.prog X.w X.K X.mg X.base k f fd ps F) (ar : Ar ps.length F) (hr : Room k X.A) (tk : Takes X W) (hm : X.mg x = some (.ref f)) (hk : PySem.W.keepIn X.K (.ref f) = true)
    (hb : KBinds X.K fd ps ks (gK a b idx) (gK a b idx)) (ha : FA X Z W (e :: es) fa) (hkw : FK X Z W kws fk) (hg : Gl X x := by rfl) (hall : (backToKw pos (keywordEach kws X.env)).all (·.1.isSome) = true := by rfl) (hks : (backToKw pos (keywordEach kws X.env)).filterMap (·.1) = ks := by rfl)
    (hdb : (x == ("__debug__" : Str)) = false := by decide) (he : starEach (e :: es) X.env = (false, eval e X.env) :: starEach es X.env := by rfl)
    (hpl : ((backTo pos (starEach (e :: es) X.env)).any (·.1) || (backToKw pos (keywordEach kws X.env)).any (·.1.isNone)) = false := by rfl) :
    FE X Z W (.Call (.Name x p) (e :: es) kws pos) (eCallK F a b idx fa fk) := by
  refine ⟨fun pins s σ H Q I h => ?_⟩
  obtain ⟨ρ, G, env, S, e, h⟩ := h
  refine wpAny_Call_Name_kw (ld_glob I hg hm ?_ hdb)
  refine PySem.W.callWith_KW (h₀ := X.base) I.ok.mod.kin hk hall (thn (ha.run pos pins s σ H _ I (step (rel := RUs (kz X Z)) S e h)) fun us0 s1 ⟨vs, H1, I1, r, ρ1, G1, us, p1, st1, S1, e1, r1, h1⟩ => ?_) hpl he
  refine thn (hkw.run pos pins s1 σ H1 _ I1 (step (rel := RUs (kz X Z)) S1 e1 h1)) fun ws s2 ⟨zs, H2, I2, rz, ρ2, G2, us2, p2, st2, S2, e2, r2, h2⟩ => ⟨I2.kIn, ?_⟩
  rw [hks]
  refine run_fnkSD Fn hr hb (passesAt_tk tk σ) I2 r rz ?_
  have rr : RUs (kz X Z) ρ2 H2 (gK a b idx us us2) (gK a b idx vs zs) := gK_rel (r1.mono p2 st2) r2
  refine ⟨?_, Z, ρ2, G2, _, hZ, S2, rr, h2⟩
  rw [← rr.len]
  by_cases hl : (gK a b idx us us2).length = ps.length
  · exact hl
  · rw [ar _ G2 hl] at h2; exact h2.elim
end
theorem kbinds_of {K : PySem.W.Frag} {x qual : Str} {params : Arguments} {body : List Stmt} {scope : Scope} {kws : List (Str × V)} {f : Addr} {fd : FuncData} {ps ks : List Str} (F : FunD K x qual params body scope [] kws f fd) (a b : Nat) (idx : List Nat) (ne : ps.length ≠ 0)
    (h : ∀ (kV doc pm : Value) (an : Option Addr) (cdv ct : Value) (us ws : List Value), us.length = a → ws.length = b → bindArgs (PySem.W.fnOf x qual params body scope .none kV doc pm an cdv ct) ⟨us, ks.zip ws⟩ = pure (ps.zip (pickL idx (us ++ ws)))) : KBinds K fd ps ks (gK a b idx) (gK a b idx) := by
  obtain ⟨oc, od, dV, kV, doc, pm, an, cdv, ct, osl, rfl, lk, hcd, hD, _⟩ := F.ex
  rcases hD with ⟨_, rfl⟩ | ⟨e, _⟩
  · refine ⟨fun s us ws _ hl => ?_, fun r q => gK_vals r q⟩
    unfold gK at hl ⊢
    by_cases hh : us.length = a ∧ ws.length = b
    · rw [if_pos hh]
      exact .of_eq (h _ _ _ _ _ _ us ws hh.1 hh.2)
    · rw [if_neg hh] at hl
      exact absurd hl.symm ne
  · exact absurd rfl e
end FL

set_option Elab.async false
set_option linter.all false
set_option maxRecDepth 100000
set_option maxHeartbeats 4000000
/-! several except clauses, with or without a name: the two rules of TryMany and Exc (ps_try_many, ps_try_as) in one -/
namespace L2
open PySem PySem.Spec PyProof.Rows
abbrev Sui := Addr → Value → Option Addr → TS
def D_un (D : Ends) (i : Nat) : Ends := { nx := fun σ' H' => D.nx (σ'.set i none) H', rt := D.rt, bk := fun σ' H' => D.bk (σ'.set i none) H', ct := fun σ' H' => D.ct (σ'.set i none) H' }
def wManyA (K : PySem.W.Frag) (Wout : WX) (D : Ends) : List (Value × Option Nat × Sui) → WX
  | [] => Wout
  | (c, none, ts) :: r => fun cls d σ H => ∃ b, PySem.W.exmOne K cls c = some b ∧ (b = true → ∀ a, H a = none → ts a cls d D σ H) ∧ (b = false → wManyA K Wout D r cls d σ H)
  | (c, some i, ts) :: r => fun cls d σ H => ∃ b, PySem.W.exmOne K cls c = some b ∧ (b = true → ∀ a, H a = none → ts a cls d (D_un D i) (σ.set i (some (.ref a))) H) ∧ (b = false → wManyA K Wout D r cls d σ H)
inductive HdsA (X : Cx) : List ExceptHandler → List (Value × Option Nat × Sui) → Prop
  | nil : HdsA X [] []
  | cons {x : Str} {c : Value} {ts : Sui} {b₀ : Stmt} {suite : List Stmt} {np pos' : Pos} {hds : List ExceptHandler} {l : List (Value × Option Nat × Sui)} (hc : Names X x c)
      (hsu : ∀ (a : Addr) (oe : Obj) (cls : Value) (d : Option Addr) (pn : List (Addr × Obj)), Zc cls d oe → (∃ vs, oe.data = .fields vs) → PSs (X.suite a ((a, oe) :: pn)) (b₀ :: suite) (ts a cls d)) (r : HdsA X hds l) :
      HdsA X (.ExceptHandler (some (.Name x np)) none (b₀ :: suite) pos' :: hds) ((c, none, ts) :: l)
  | as {x n : Str} {i : Nat} {c : Value} {ts : Sui} {b₀ : Stmt} {suite : List Stmt} {np pos' : Pos} {hds : List ExceptHandler} {l : List (Value × Option Nat × Sui)} (hc : Names X x c) (hi : X.N[i]? = some n) (hln : X.env.kindOf n = some .local)
      (hsu : ∀ (a : Addr) (oe : Obj) (cls : Value) (d : Option Addr) (pn : List (Addr × Obj)), Zc cls d oe → (∃ vs, oe.data = .fields vs) → PSs (X.suite a ((a, oe) :: pn)) (b₀ :: suite) (ts a cls d)) (r : HdsA X hds l) :
      HdsA X (.ExceptHandler (some (.Name x np)) (some n) (b₀ :: suite) pos' :: hds) ((c, some i, ts) :: l)
section
variable {X : Cx} {body : List Stmt} {h₀ : ExceptHandler} {hds : List ExceptHandler} {l : List (Value × Option Nat × Sui)} {pos : Pos} {tb : WX → TS} {Wout : WX}
theorem ps_try_A (hs : X.stack = X.env :: X.outer) (hf : X.env.frame = some X.env.locals) (hN : X.N.Nodup) (tk : Takes X Wout)
    (hb : ∀ (W : WX) (pn : List (Addr × Obj)) (xe : Value → Shared → Prop), Takes (X.tr pn xe) W → PassesOwn (model X.prog X.w) X.A X.env xe → PSs (X.tr pn xe) body (tb W))
    (hh : HdsA X (h₀ :: hds) l) : PS X (.Try body (h₀ :: hds) [] [] pos) (fun D σ H => tb (wManyA X.K Wout D l) D σ H) := by
  refine ⟨fun pins s σ H D I h => ?_⟩
  have ok := I.ok
  have hfr : X.A.frames = some (X.env :: X.outer) := by rw [ok.frames, hs]
  refine wpAny_Try_except ?_
  refine wpAny_mono ((hb (wManyA X.K Wout D l) (X.pn ++ pins) (fun e s₁ => wpAny (model X.prog X.w) X.A (noteFrame e X.env) (fun _ s₂ => wpAny (model X.prog X.w) X.A (setFlight e none) (fun _ s₃ =>
    wpAny (model X.prog X.w) X.A (handleBy e X.env (h₀ :: hds)) (SP X pins D) X.xe s₃) X.xe s₂) X.xe s₁) (fun u s' xx => ?_) PassesOwn.looking).run [] s σ H D (I.toTry _) h) (fun f s1 hsp => ?_) (fun e s1 he => he)
  · obtain ⟨a, B, sI, pins', σ', H', cls, d, rfl, J', nb, up, sky, na, os, ag, w⟩ := xx
    have J : Inv X pins σ' H' sI := J'.ofTry ok
    have sky' : Sky B (X.env :: X.outer) a (Zc cls d) X.env.locals s'.heap := by rw [← hs]; exact sky
    show wpAny (model X.prog X.w) X.A (noteFrame (.ref a) X.env) _ _ _
    refine Sky.land Zc.steady hfr hf sky' fun h3 fl3 up3 => ?_
    have J3 : Inv X pins σ' H' { s' with heap := h3 } := J.landed nb fl3.1 (up.trans up3) os ag
    obtain ⟨oe3, vs3, he3, hz3, hd3⟩ := fl3.there
    have notFr : ∀ {h : Heap} {o : Obj} {vs : Array Value}, h.FunFrames B (X.env :: X.outer) → h.get? a = some o → o.data = .fields vs → a ∉ frs (X.env :: X.outer) := fun {h o vs} ff e dd hm => by
      obtain ⟨_, o', e', hnf⟩ := ff.mem hm
      rw [e] at e'; cases e'
      exact hnf _ dd
    have nfr := notFr fl3.2.2.1 he3 hd3
    have nL : a ≠ X.env.locals := fun z => nfr (List.mem_filterMap.mpr ⟨X.env, List.mem_cons_self, by rw [hf, z]⟩)
    have nF : a ∉ X.fs := fun hm => by
      obtain ⟨e, he, q⟩ := List.mem_filterMap.mp hm
      exact nfr (List.mem_filterMap.mpr ⟨e, List.mem_cons_of_mem _ he, q⟩)
    have S3 := J3.suite he3 hd3 na nL nF
    have LT : PySem.W.Looks (model X.prog X.w) h3 (typeOf (.ref a)) cls := fun A Q E s k q => wpAny_typeOf_ref (k _ _ he3) (by rw [hz3.1]; exact q)
    have go : ∀ {hds' : List ExceptHandler} {l' : List (Value × Option Nat × Sui)}, HdsA X hds' l' → wManyA X.K Wout D l' cls d σ' H' →
        wpAny (model X.prog X.w) X.A (handleBy (.ref a) X.env hds') (SP X pins D) X.xe { s' with heap := h3 } := by
      intro hds' l' hk
      induction hk with
      | nil =>
        intro w
        refine wpAny_handleBy_nil ?_
        obtain ⟨k1, k2, k3, oe, vs, T, oT, ts', he, hz, hd, h1, hr⟩ := id fl3
        unfold PySem.passOn
        refine wpAny_bind (wpAny_field he hd h1 ?_)
        rw [if_neg (show ¬ ((Value.ref T == Value.none) = true) from by simp)]
        have fin : wpAny (model X.prog X.w) X.A (setFlight (.ref a) X.env.frame) (fun _ s4 => wpAny (model X.prog X.w) X.A (throw (.ref a) : Sem Flow) (SP X pins D) X.xe s4) X.xe { s' with heap := h3 } := by
          rw [hf]
          refine HandSPX.setFlight_upZ fl3 fun h4 hh4 up4 => wpAny_throw (tk _ _ ?_)
          exact ⟨a, B, sI, pins, σ', H', cls, d, rfl, J, nb, (up.trans up3).trans up4, .inr (.inr (by rw [hs]; exact hh4)), na, os, ag, w⟩
        first
          | exact wpAny_bind (wpAny_pure (wpAny_bind fin))
          | exact wpAny_bind fin
      | @cons x c ts b₀ suite np pos' hds2 l2 hc hsu r ih =>
        intro w
        obtain ⟨b, hb1, hyes, hno⟩ := w
        refine wpAny_handleBy_cons (codeAny_handlers_test ?_) (by intro q; cases q)
        have LM := PySem.W.exm_one (M := model X.prog X.w) (J3.kIn) LT hb1
        have test : ∀ {Q : Value → Shared → Prop} {E : Value → Shared → Prop}, Q c { s' with heap := h3 } → wpAny (model X.prog X.w) (X.A.mark (some (.ref a))) (eval (.Name x np) X.env) Q E { s' with heap := h3 } := fun {Q E} q => by
          obtain ⟨hg, hdbg, hm | ⟨hm, hv, hnn⟩⟩ := hc
          · exact ld_glob (X := X.suite a ((a, oe3) :: (X.pn ++ pins))) S3 hg hm q hdbg
          · exact ld_blt (X := X.suite a ((a, oe3) :: (X.pn ++ pins))) S3 hg hm hv q hnn hdbg
        refine test (LM.here ?_)
        cases b with
        | true =>
          refine codeAny_handlers_suite ?_
          refine HandSPX.lands_againZ fl3 fun h4 fl4 up4 => ?_
          have J4 : Inv X pins σ' H' { s' with heap := h4 } := J.landed nb fl4.1 ((up.trans up3).trans up4) os ag
          obtain ⟨oe4, vs4, he4, hz4, hd4⟩ := fl4.there
          have S4 := J4.suite he4 hd4 na nL nF
          refine wpAny_mono ((hsu a oe4 cls d (X.pn ++ pins) hz4 ⟨_, hd4⟩).run [] _ _ H' _ S4 (hyes rfl a na)) (fun f s6 hsp => ?_) (fun _ _ z => False.elim z)
          cases f with
          | next =>
            obtain ⟨σ6, H6, S6, q6⟩ := hsp
            exact ⟨_, _, S6.unsuite ok, q6⟩
          | brk =>
            obtain ⟨σ6, H6, S6, q6⟩ := hsp
            exact ⟨_, _, S6.unsuite ok, q6⟩
          | cont =>
            obtain ⟨σ6, H6, S6, q6⟩ := hsp
            exact ⟨_, _, S6.unsuite ok, q6⟩
          | ret u =>
            obtain ⟨v6, σ6, H6, S6, r6, q6⟩ := hsp
            exact ⟨_, _, _, S6.unsuite ok, r6, q6⟩
        | false =>
          show wpAny _ X.A (handleBy (.ref a) X.env hds2) _ _ _
          exact ih (hno rfl)
      | @as x n i c ts b₀ suite np pos' hds2 l2 hc hi hln hsu r ih =>
        intro w
        obtain ⟨b, hb1, hyes, hno⟩ := w
        refine wpAny_handleBy_cons (codeAny_handlers_test ?_) (by intro q; cases q)
        have hloc : Loc X.env.scope n := .inl hln
        have LM := PySem.W.exm_one (M := model X.prog X.w) (J3.kIn) LT hb1
        have test : ∀ {Q : Value → Shared → Prop} {E : Value → Shared → Prop}, Q c { s' with heap := h3 } → wpAny (model X.prog X.w) (X.A.mark (some (.ref a))) (eval (.Name x np) X.env) Q E { s' with heap := h3 } := fun {Q E} q => by
          obtain ⟨hg, hdbg, hm | ⟨hm, hv, hnn⟩⟩ := hc
          · exact ld_glob (X := X.suite a ((a, oe3) :: (X.pn ++ pins))) S3 hg hm q hdbg
          · exact ld_blt (X := X.suite a ((a, oe3) :: (X.pn ++ pins))) S3 hg hm hv q hnn hdbg
        refine test (LM.here ?_)
        cases b with
        | true =>
          refine codeAny_handlers_suite_as ?_
          refine HandSPX.lands_againZ fl3 fun h4 fl4 up4 => ?_
          have J4 : Inv X pins σ' H' { s' with heap := h4 } := J.landed nb fl4.1 ((up.trans up3).trans up4) os ag
          obtain ⟨oe4, vs4, he4, hz4, hd4⟩ := fl4.there
          have S4 := J4.suite he4 hd4 na nL nF
          refine store_ok (X := X.suite a ((a, oe4) :: (X.pn ++ pins))) (v := .ref a) S4 hN hi hloc rfl (fun s5 S5 => ?_) (.inr hln)
          refine wpAny_mono ((hsu a oe4 cls d (X.pn ++ pins) hz4 ⟨_, hd4⟩).run [] s5 _ H' _ S5 (hyes rfl a na)) (fun f s6 hsp => ?_) (fun _ _ z => False.elim z)
          have end_ : ∀ {σ6 : St} {H6 : Hp} {Q : Shared → Prop}, Inv (X.suite a ((a, oe4) :: (X.pn ++ pins))) [] σ6 H6 s6 → (∀ s7, Inv X pins (σ6.set i none) H6 s7 → Q s7) →
              wpAny (model X.prog X.w) X.A (do bindName X.env n .none; unbindBehindTheSuite X.env n pos') (fun _ s7 => Q s7) X.xe s6 := fun {σ6 H6 Q} S6 hq => gone_ok (S6.unsuite ok) hN hi hln hq
          cases f with
          | next =>
            obtain ⟨σ6, H6, S6, q6⟩ := hsp
            exact end_ S6 fun s7 J7 => ⟨_, _, J7, q6⟩
          | brk =>
            obtain ⟨σ6, H6, S6, q6⟩ := hsp
            exact end_ S6 fun s7 J7 => ⟨_, _, J7, q6⟩
          | cont =>
            obtain ⟨σ6, H6, S6, q6⟩ := hsp
            exact end_ S6 fun s7 J7 => ⟨_, _, J7, q6⟩
          | ret u =>
            obtain ⟨v6, σ6, H6, S6, r6, q6⟩ := hsp
            exact end_ S6 fun s7 J7 => ⟨_, _, _, J7, r6, q6⟩
        | false =>
          show wpAny _ X.A (handleBy (.ref a) X.env hds2) _ _ _
          exact ih (hno rfl)
    exact go hh w
  · cases f with
    | next =>
      obtain ⟨σ', H', J', q⟩ := hsp
      exact wpAny_execs_nil ⟨σ', H', J'.ofTry ok, q⟩
    | brk =>
      obtain ⟨σ', H', J', q⟩ := hsp
      exact ⟨σ', H', J'.ofTry ok, q⟩
    | cont =>
      obtain ⟨σ', H', J', q⟩ := hsp
      exact ⟨σ', H', J'.ofTry ok, q⟩
    | ret u =>
      obtain ⟨v, σ', H', J', r, q⟩ := hsp
      exact ⟨v, σ', H', J'.ofTry ok, r, q⟩
end
/-! the facts of a class of errors, by a look that computes -/
def oexB (K : PySem.W.Frag) (C : Addr) : Bool := (match K.lookup C with
  | some ⟨.type "type", _, .cls cd, sl⟩ => (match cd.mro, sl.toList with
    | .ref C' :: bm, [_, _, _, _, some (.builtin n), _] => C' == C && n == "ValueError.__new__" && !cd.hasDel && cd.hasDict && PySem.HandSPX.refsVE bm
    | _, _ => false)
  | _ => false) && (decide (PySem.W.findIn K (.ref C) "__setattr__" = some (some (.builtin "object.__setattr__"))) && (decide (PySem.W.subIn K (.ref C) (.type "BaseException") = some true) && (decide (PySem.W.typeIn K (.ref C) = some (.type "type")) && PySem.W.keepIn K (.ref C))))
theorem oexB_ok {K : PySem.W.Frag} {C : Addr} (h : oexB K C = true) : OexC K C := by
  unfold oexB at h
  rw [Bool.and_eq_true, Bool.and_eq_true, Bool.and_eq_true, Bool.and_eq_true] at h
  obtain ⟨q, h1, h2, h3, h4⟩ := h
  refine ⟨?_, of_decide_eq_true h1, of_decide_eq_true h2, of_decide_eq_true h3, h4⟩
  split at q
  · rename_i dd cd sl ho
    split at q
    · rename_i C' bm k0 k1 k2 k3 n k5 hm hs
      simp only [Bool.and_eq_true, beq_iff_eq, Bool.not_eq_true'] at q
      obtain ⟨⟨⟨⟨rfl, rfl⟩, hdel⟩, hhd⟩, ht⟩ := q
      obtain ⟨nm, bs, mro, ns, qn, hd, sn, sub, ab, col, del⟩ := cd
      dsimp only at hm hdel hhd
      subst hm hdel hhd
      have hsl : sl = #[k0, k1, k2, k3, some (.builtin "ValueError.__new__"), k5] := by
        obtain ⟨l⟩ := sl
        simp only at hs
        rw [hs]
      subst hsl
      exact ⟨nm, qn, ns, bs, bm, sn, sub, ab, col, dd, k0, k1, k2, k3, k5, ho, ht⟩
    · cases q
  · cases q
end L2

set_option Elab.async false
set_option linter.all false
set_option maxRecDepth 100000
set_option maxHeartbeats 4000000
set_option autoImplicit false
namespace FL
open PySem PySem.Spec L2

/-! ### raise C(e, ..), C a class of errors whose __init__ stores its arguments -/
/-- what the written part says of such a class: its name, its fields -/
structure ExK (K : PySem.W.Frag) (mg : Str → Option Value) (c : Str) (fI : Addr) (fs : List Str) : Prop where
  T : OexC K (He.ga K c)
  iC : PySem.W.findIn K (.ref (He.ga K c)) "__init__" = some (some (.ref fI))
  tI : PySem.W.typeIn K (.ref fI) = some (.type "function")
  no : ∀ f ∈ fs, PySem.W.findIn K (.ref (He.ga K c)) f = some none
  gC : mg c = some (.ref (He.ga K c))
/-- __init__'s promise, one field, two -/
def spI (K : PySem.W.Frag) (C : Addr) (fs : List Str) : Sp := fun vs H Q _ => ∃ (a : Addr) (ws : List V), vs = .ref a :: ws ∧ ws.length = fs.length ∧ H a = some (exo a C none) ∧ OexC K C ∧
  (∀ f ∈ fs, PySem.W.findIn K (.ref C) f = some none) ∧ ∀ dx, H dx = none → dx ≠ a → Q .non (upd (upd (upd H dx (exd dx [])) a (exo a C (some dx))) dx (exd dx (fs.zip ws).reverse))
section
variable {P : Program} {w : World} {K : PySem.W.Frag} {mg : Str → Option Value} {base : Heap}
theorem upd_mid {H : Hp} {a dx : Addr} {o1 o2 o3 : HO} (ne : dx ≠ a) : upd (upd (upd H dx o1) a o2) dx o3 = upd (upd H dx o3) a o2 := by
  funext b
  unfold upd
  by_cases h1 : b = dx
  · subst h1
    rw [if_pos rfl, if_neg ne, if_pos rfl]
  · rw [if_neg h1]
    by_cases h2 : b = a
    · rw [if_pos h2, if_pos h2]
    · rw [if_neg h2, if_neg h2, if_neg h1, if_neg h1]
theorem okI1 {x qual f : Str} {params : Arguments} {body : List Stmt} {scope : Scope} {C fI : Addr} {fd : FuncData} {N : List Str} (F : FunD K x qual params body scope [] [] fI fd) (S : FnScope N ["self", f] scope) (hN : N.length = 2)
    (hb : ∀ (cdv : Value) (A : Around) (outer : List Env) (s : Shared) (H : Hp) (E : XK), PSs (cxOf (CX P w) P w K mg base N qual scope fI cdv A outer s H E) body (tOst K f (tVar 0) (tVar 1))) : FnOk P w K mg base (CX P w) 1 fI fd ["self", f] (spI K C [f]) := by
  refine F.ok S (fun vs H Q E h => ?_) fun cdv A outer s H vs Q E hr h => ?_
  · obtain ⟨a, ws, rfl, hl, _⟩ := h
    simp at hl ⊢; exact hl
  · obtain ⟨a, ws, rfl, hl, ha, T, no, q⟩ := h
    obtain ⟨y, rfl⟩ : ∃ y, ws = [y] := by
      cases ws with
      | nil => simp at hl
      | cons y r =>
        cases r with
        | nil => exact ⟨y, rfl⟩
        | cons _ _ => simp at hl
    refine ⟨_, hb cdv A outer s H E, ?_⟩
    have e : L2.start N [.ref a, y] = [some (.ref a), some y] := by simp [L2.start, hN]
    rw [e]
    refine ⟨y, rfl, .ref a, rfl, a, C, rfl, T, no f (by simp), .inl ⟨ha, fun dx n ne => ?_⟩⟩
    have z := q dx n ne
    rw [upd_mid ne] at z
    exact z
theorem okI2 {x qual f g : Str} {params : Arguments} {body : List Stmt} {scope : Scope} {C fI : Addr} {fd : FuncData} {N : List Str} (F : FunD K x qual params body scope [] [] fI fd) (S : FnScope N ["self", f, g] scope) (hN : N.length = 3)
    (hb : ∀ (cdv : Value) (A : Around) (outer : List Env) (s : Shared) (H : Hp) (E : XK), PSs (cxOf (CX P w) P w K mg base N qual scope fI cdv A outer s H E) body (tSeq (tOst K f (tVar 0) (tVar 1)) (tOst K g (tVar 0) (tVar 2)))) : FnOk P w K mg base (CX P w) 1 fI fd ["self", f, g] (spI K C [f, g]) := by
  refine F.ok S (fun vs H Q E h => ?_) fun cdv A outer s H vs Q E hr h => ?_
  · obtain ⟨a, ws, rfl, hl, _⟩ := h
    simp at hl ⊢; exact hl
  · obtain ⟨a, ws, rfl, hl, ha, T, no, q⟩ := h
    obtain ⟨y, y', rfl⟩ : ∃ y y', ws = [y, y'] := by
      match ws, hl with
      | [y, y'], _ => exact ⟨y, y', rfl⟩
    refine ⟨_, hb cdv A outer s H E, ?_⟩
    have e : L2.start N [.ref a, y, y'] = [some (.ref a), some y, some y'] := by simp [L2.start, hN]
    rw [e]
    refine ⟨y, rfl, .ref a, rfl, a, C, rfl, T, no f (by simp), .inl ⟨ha, fun dx n ne => ?_⟩⟩
    refine ⟨y', rfl, .ref a, rfl, a, C, rfl, T, no g (by simp), .inr ⟨dx, [(f, y)], upd_same, ?_, by show 1 ≤ 900; decide, ?_⟩⟩
    · rw [upd_ne ne, upd_same]
    · have z := q dx n ne
      have e2 : upd (upd (upd H dx (exd dx [(f, y)])) a (exo a C (some dx))) dx (exd dx [(g, y'), (f, y)]) = upd (upd (upd H dx (exd dx [])) a (exo a C (some dx))) dx (exd dx (([f, g].zip [y, y']).reverse)) := by
        rw [upd_mid ne, upd_mid ne]; rfl
      rw [e2]
      exact z
end
def sRaise (c : Str) (fs : List Str) (fa : Ev → Gp → R (List U)) : Ev → Gp → SR := fun env G => (fa env G).andThen env fun us G1 => if us.length = fs.length then .exc c (fs.zip us).reverse env G1 else .bad
section
variable {X : Cx} {Z : ZZ X.K} {W : WX} {c : Str} {fI : Addr} {fs : List Str} {fd : FuncData} {ps : List Str} {p pos pos2 : Pos} {e : Expr} {es : List Expr} {fa : Ev → Gp → R (List U)} {k : Nat}
theorem zip_rel {K : KZ} {ρ : List Addr} {H : Hp} (fs : List Str) {us : List U} {vs : List V} (r : RUs K ρ H us vs) (hl : us.length = fs.length) : RFs K ρ H (fs.zip us).reverse (fs.zip vs).reverse := by
  have e1 : (fs.zip us).map (·.1) = fs := List.map_fst_zip (by omega)
  have e2 : (fs.zip vs).map (·.1) = fs := List.map_fst_zip (by rw [← r.len]; omega)
  have e3 : (fs.zip us).map (·.2) = us := List.map_snd_zip (by omega)
  have e4 : (fs.zip vs).map (·.2) = vs := List.map_snd_zip (by rw [← r.len]; omega)
  refine ⟨by rw [List.map_reverse, List.map_reverse, e1, e2], ?_⟩
  rw [List.map_reverse, List.map_reverse, e3, e4]
  have rev : ∀ {us : List U} {vs : List V}, RUs K ρ H us vs → RUs K ρ H us.reverse vs.reverse := by
    intro us
    induction us with
    | nil => intro vs r; cases r; exact .nil
    | cons x xs ih =>
      intro vs r
      cases r with
      | cons h t => rw [List.reverse_cons, List.reverse_cons]; exact (ih t).append (.cons h .nil)
  exact rev r
theorem fraise (E : ExK X.K X.mg c fI fs) (F1 : FnOk X.prog X.w X.K X.mg X.base (CX X.prog X.w) 1 fI fd ps (spI X.K (He.ga X.K c) fs)) (hfs : fs.length ≤ 1000) (hb : Binds X.K fd ps []) (hr : Room 2 X.A) (hc : X.calm = true) (tk : Takes X W) (ha : FA X Z W (e :: es) fa) (hg : Gl X c := by rfl)
    (hdb : (c == ("__debug__" : Str)) = false := by decide) (he : starEach (e :: es) X.env = (false, eval e X.env) :: starEach es X.env := by rfl) (hpl : (backTo pos (starEach es X.env)).any (·.1) = false := by rfl) :
    FS X Z W (.Raise (some (.Call (.Name c p) (e :: es) [] pos)) none pos2) (sRaise c fs fa) := by
  refine PSimp (ps_raise hc tk (pmk_oex (dvs := []) (ds := []) E.T E.iC E.tI F1 hr hb .nil (passes_call tk fun _ _ _ _ h => h.elim) hg E.gC ha hdb he hpl)) fun D σ H ⟨ρ, G, env, S, e, h⟩ => ?_
  refine tG_mono (stepS (rel := RUs (kz X Z)) S e h) fun vs H1 ⟨ρ1, G1, us, p1, s1, S1, e1, r1, h1⟩ => ?_
  by_cases hl : us.length = fs.length
  · rw [if_pos hl] at h1
    refine ⟨by rw [← r1.len, hl]; exact hfs, fun a hn => ?_⟩
    rw [List.append_nil]
    have hda : ∀ dx : Addr, upd H1 a (exo a (He.ga X.K c) none) dx = none → dx ≠ a → H1 dx = none := fun dx q ne => by rw [upd_ne ne] at q; exact q
    refine ⟨a, vs, rfl, by rw [← r1.len]; exact hl, upd_same, E.T, E.no, fun dx n ne => ⟨rfl, dx, (fs.zip vs).reverse, ?_, upd_same, hda dx n ne, ?_⟩⟩
    · rw [upd_ne (Ne.symm ne), upd_same]
    · have hdn := hda dx n ne
      have eH : upd (del (upd (upd (upd (upd H1 a (exo a (He.ga X.K c) none)) dx (exd dx [])) a (exo a (He.ga X.K c) (some dx))) dx (exd dx (fs.zip vs).reverse)) a) dx (.xd (fs.zip vs).reverse) = upd H1 dx (.xd (fs.zip vs).reverse) := by
        funext b
        unfold upd del
        by_cases h1 : b = dx
        · simp [h1]
        · by_cases h2 : b = a
          · subst h2; simp [h1, hn]
          · simp [h1, h2]
      rw [eH]
      have st : Stb (kz X Z) H1 (upd H1 dx (.xd (fs.zip vs).reverse)) := stb_new hdn
      exact h1 σ dx _ ρ1 _ pre_refl st (S1.tup hdn) (e1.mono pre_refl st) upd_same ((zip_rel fs r1 hl).mono pre_refl st)
  · rw [if_neg hl] at h1; exact h1.elim
end

/-! ### try: body / except ..: suites -/
/-- what a clause does: the class, the name's slot, the suite by the error's class and fields -/
abbrev Hd := Str × Option Nat × (Str → List (Str × U) → Ev → Gp → SR)
def unE (i : Nat) (r : SR) : SR := match r with
  | .nx e G => .nx (e.set i none) G
  | .brk e G => .brk (e.set i none) G
  | .ct e G => .ct (e.set i none) G
  | .exc _ _ _ _ => .bad
  | r => r
def noExc (r : SR) : SR := match r with
  | .exc _ _ _ _ => .bad
  | r => r
def goH (as : List Str) (c : Str) (fs : List (Str × U)) (env : Ev) (G : Gp) : List Hd → SR
  | [] => .exc c fs env G
  | (h, none, s) :: r => if as.contains h = true then noExc (s c fs env G) else goH as c fs env G r
  | (h, some i, s) :: r => if as.contains h = true then unE i (s c fs (env.set i none) G) else goH as c fs env G r
def sTry (t : List (Str × List Str)) (body : Ev → Gp → SR) (hs : List Hd) : Ev → Gp → SR := fun env G => match body env G with
  | .exc c fs env' G' => match t.lookup c with
    | some as => goH as c fs env' G' hs
    | none => .bad
  | r => r
/-- the caught error: its class, where its fields stand -/
def zE {K : PySem.W.Frag} (Z : ZZ K) (er : Option (Nat × Addr)) (fs : List (Str × U)) (dd : Addr) : ZZ K where
  er := er
  P := fun ρ H => Z.P ρ H ∧ ∃ vfs, H dd = some (.xd vfs) ∧ RFs ⟨K, Z⟩ ρ H fs vfs
  st := fun ρ ρ' H H' p k ⟨h, vfs, e, r⟩ => ⟨Z.st ρ ρ' H H' p k h, vfs, k.xd _ _ e, RFs.mono (K := ⟨K, Z⟩) p k r⟩
section
variable {K : PySem.W.Frag} {Z Z' : ZZ K} {ρ : List Addr} {H : Hp}
mutual
theorem RU.zc : ∀ {u : U} {v : V}, RU ⟨K, Z⟩ ρ H u v → RU ⟨K, Z'⟩ ρ H u v
  | _, _, .non => .non
  | _, _, .bl b => .bl b
  | _, _, .int i => .int i
  | _, _, .str x => .str x
  | _, _, .ref h => .ref h
  | _, _, .tup h r => .tup h (RUs.zc r)
  | _, _, .rl h r => .rl h (RUs.zc r)
  | _, _, .wt h r => .wt h (RUs.zc r)
theorem RUs.zc : ∀ {u : List U} {v : List V}, RUs ⟨K, Z⟩ ρ H u v → RUs ⟨K, Z'⟩ ρ H u v
  | _, _, .nil => .nil
  | _, _, .cons h t => .cons (RU.zc h) (RUs.zc t)
end
theorem REq0.zc : ∀ {env : Ev} {σ : St}, REq0 ⟨K, Z⟩ ρ H env σ → REq0 ⟨K, Z'⟩ ρ H env σ
  | [], [], _ => trivial
  | none :: us, v :: vs, h => ⟨trivial, REq0.zc h.2⟩
  | some x :: us, some y :: vs, h => ⟨RU.zc h.1, REq0.zc h.2⟩
  | some x :: us, none :: vs, h => h.1.elim
theorem RFs.zc {fs : List (Str × U)} {vfs : List (Str × V)} (h : RFs ⟨K, Z⟩ ρ H fs vfs) : RFs ⟨K, Z'⟩ ρ H fs vfs := ⟨h.1, RUs.zc h.2⟩
theorem RKs.zc {κ : Type} {f : U → Option κ} : ∀ {kvs : List (U × U)} {vk : List (κ × V)}, RKs f ⟨K, Z⟩ ρ H kvs vk → RKs f ⟨K, Z'⟩ ρ H kvs vk
  | _, _, .nil => .nil
  | _, _, .cons hk r t => .cons hk (RU.zc r) (RKs.zc t)
theorem RO.zc {o : OU} {ho : HO} (h : RO ⟨K, Z⟩ ρ H o ho) : RO ⟨K, Z'⟩ ρ H o ho := by
  cases o <;> cases ho <;> first | exact h.elim | exact RUs.zc h | exact RKs.zc h | exact ⟨h.1, RFs.zc h.2⟩
theorem Sim.zc {G : Gp} (S : Sim ⟨K, Z⟩ ρ G H) (z : Z'.P ρ H) : Sim ⟨K, Z'⟩ ρ G H := ⟨S.len, S.nd, fun l o a h1 h2 => by
  obtain ⟨ho, e, r⟩ := S.ob l o a h1 h2
  exact ⟨ho, e, RO.zc r⟩, z⟩
end
theorem set_none_any {K : KZ} {ρ : List Addr} {H : Hp} (x : Option V) : ∀ {env : Ev} {σ : St}, REq0 K ρ H env σ → ∀ i : Nat, REq0 K ρ H (env.set i none) (σ.set i x)
  | [], [], _, _ => trivial
  | none :: us, v :: vs, h, 0 => ⟨trivial, h.2⟩
  | some _ :: us, some _ :: vs, h, 0 => ⟨trivial, h.2⟩
  | some x :: us, none :: vs, h, _ => h.1.elim
  | none :: us, v :: vs, h, i + 1 => ⟨h.1, set_none_any x h.2 i⟩
  | some _ :: us, some _ :: vs, h, i + 1 => ⟨h.1, set_none_any x h.2 i⟩
section
variable {X : Cx} {Z : ZZ X.K} {W : WX}
/-- the context of a suite: a the error, oe its object, of the class c; its dict at dd -/
abbrev SuX (X : Cx) (a : Addr) (oe : Obj) (pn : List (Addr × Obj)) : Cx := X.suite a ((a, oe) :: pn)
/-- the clauses' suites keep what their words tell -/
inductive FHs (X : Cx) (Z : ZZ X.K) (t : List (Str × List Str)) : List ExceptHandler → List Hd → Prop
  | nil : FHs X Z t [] []
  | cons {x : Str} {s : Str → List (Str × U) → Ev → Gp → SR} {b₀ : Stmt} {suite : List Stmt} {np pos' : Pos} {hds : List ExceptHandler} {l : List Hd} (hc : Names X x (.ref (He.ga X.K x))) (hx : ∀ c as, (c, as) ∈ t → PySem.W.exmOne X.K (.ref (He.ga X.K c)) (.ref (He.ga X.K x)) = some (as.contains x))
      (hsu : ∀ (a : Addr) (oe : Obj) (c : Str) (fs : List (Str × U)) (dd : Addr) (pn : List (Addr × Obj)), c ∈ t.map (·.1) → Zc (.ref (He.ga X.K c)) (some dd) oe → (∃ vs, oe.data = .fields vs) → FSs (SuX X a oe pn) (zE Z none fs dd) W0 (b₀ :: suite) (s c fs)) (r : FHs X Z t hds l) :
      FHs X Z t (.ExceptHandler (some (.Name x np)) none (b₀ :: suite) pos' :: hds) ((x, none, s) :: l)
  | as {x n : Str} {i : Nat} {s : Str → List (Str × U) → Ev → Gp → SR} {b₀ : Stmt} {suite : List Stmt} {np pos' : Pos} {hds : List ExceptHandler} {l : List Hd} (hc : Names X x (.ref (He.ga X.K x))) (hx : ∀ c as, (c, as) ∈ t → PySem.W.exmOne X.K (.ref (He.ga X.K c)) (.ref (He.ga X.K x)) = some (as.contains x))
      (hi : X.N[i]? = some n) (hln : X.env.kindOf n = some .local)
      (hsu : ∀ (a : Addr) (oe : Obj) (c : Str) (fs : List (Str × U)) (dd : Addr) (pn : List (Addr × Obj)), c ∈ t.map (·.1) → Zc (.ref (He.ga X.K c)) (some dd) oe → (∃ vs, oe.data = .fields vs) → FSs (SuX X a oe pn) (zE Z (some (i, a)) fs dd) W0 (b₀ :: suite) (s c fs)) (r : FHs X Z t hds l) :
      FHs X Z t (.ExceptHandler (some (.Name x np)) (some n) (b₀ :: suite) pos' :: hds) ((x, some i, s) :: l)
end
end FL

set_option Elab.async false
set_option linter.all false
set_option maxRecDepth 100000
set_option maxHeartbeats 4000000
set_option autoImplicit false
namespace FL
open PySem PySem.Spec L2

section
variable {X : Cx} {Z : ZZ X.K} {W : WX}
/-- what a suite wants: the error's class, dict and fields are known -/
def tsS (K : PySem.W.Frag) (Z : ZZ K) (t : List (Str × List Str)) (i : Option Nat) (s : Str → List (Str × U) → Ev → Gp → SR) : Sui := fun a cls d D σ H => ∃ c fs dd, cls = .ref (He.ga K c) ∧ d = some dd ∧ c ∈ t.map (·.1) ∧ tS ⟨K, zE Z (i.map fun i => (i, a)) fs dd⟩ W0 (s c fs) D σ H
def hdL (K : PySem.W.Frag) (Z : ZZ K) (t : List (Str × List Str)) : List Hd → List (Value × Option Nat × Sui)
  | [] => []
  | (x, i, s) :: r => (.ref (He.ga K x), i, tsS K Z t i s) :: hdL K Z t r
theorem hdsA_of {t : List (Str × List Str)} : ∀ {hds : List ExceptHandler} {l : List Hd}, FHs X Z t hds l → HdsA X hds (hdL X.K Z t l)
  | _, _, .nil => .nil
  | _, _, .cons hc hx hsu r => .cons hc (fun a oe cls d pn hz hf => ⟨fun pins s σ H D I h => by
      obtain ⟨c, fs, dd, rfl, rfl, hm, h⟩ := h
      exact (hsu a oe c fs dd pn hm hz hf).run pins s σ H D I h⟩) (hdsA_of r)
  | _, _, .as hc hx hi hln hsu r => .as hc hi hln (fun a oe cls d pn hz hf => ⟨fun pins s σ H D I h => by
      obtain ⟨c, fs, dd, rfl, rfl, hm, h⟩ := h
      exact (hsu a oe c fs dd pn hm hz hf).run pins s σ H D I h⟩) (hdsA_of r)
theorem sim_out {K : PySem.W.Frag} {Z : ZZ K} {er : Option (Nat × Addr)} {fs : List (Str × U)} {dd : Addr} {ρ : List Addr} {G : Gp} {H : Hp} (S : Sim ⟨K, zE Z er fs dd⟩ ρ G H) : Sim ⟨K, Z⟩ ρ G H := S.zc S.z.1
theorem req_out {K : PySem.W.Frag} {Z Z' : ZZ K} (hZ : Z.er = none) {ρ : List Addr} {H : Hp} {env : Ev} {σ : St} (e : REq ⟨K, Z'⟩ ρ H env σ) : REq ⟨K, Z⟩ ρ H env σ := ⟨e.1.zc, fun i a h => by have h : Z.er = some (i, a) := h; rw [hZ] at h; cases h⟩
theorem post_in {K : PySem.W.Frag} {Z : ZZ K} {er : Option (Nat × Addr)} {fs : List (Str × U)} {dd : Addr} (hZ : Z.er = none) {ρ : List Addr} {H : Hp} {r : SR} {D : Ends} {W : WX} (h : PostS ⟨K, Z⟩ ρ H (noExc r) D W) : PostS ⟨K, zE Z er fs dd⟩ ρ H r D W0 := by
  cases r with
  | nx e G => exact fun σ' ρ' H' p s S q => h σ' ρ' H' p s (sim_out S) (req_out hZ q)
  | brk e G => exact fun σ' ρ' H' p s S q => h σ' ρ' H' p s (sim_out S) (req_out hZ q)
  | ct e G => exact fun σ' ρ' H' p s S q => h σ' ρ' H' p s (sim_out S) (req_out hZ q)
  | ret u G => exact fun v ρ' H' p s S q => h v ρ' H' p s (sim_out S) q.zc
  | exc c fs e G => exact h.elim
  | bad => exact h
theorem post_in_as {K : PySem.W.Frag} {Z : ZZ K} {er : Option (Nat × Addr)} {fs : List (Str × U)} {dd : Addr} (hZ : Z.er = none) {ρ : List Addr} {H : Hp} {r : SR} {D : Ends} {W : WX} (i : Nat) (h : PostS ⟨K, Z⟩ ρ H (unE i r) D W) : PostS ⟨K, zE Z er fs dd⟩ ρ H r (D_un D i) W0 := by
  cases r with
  | nx e G => exact fun σ' ρ' H' p s S q => h _ ρ' H' p s (sim_out S) ((req_out hZ q).unset hZ i)
  | brk e G => exact fun σ' ρ' H' p s S q => h _ ρ' H' p s (sim_out S) ((req_out hZ q).unset hZ i)
  | ct e G => exact fun σ' ρ' H' p s S q => h _ ρ' H' p s (sim_out S) ((req_out hZ q).unset hZ i)
  | ret u G => exact fun v ρ' H' p s S q => h v ρ' H' p s (sim_out S) q.zc
  | exc c fs e G => exact h.elim
  | bad => exact h
theorem many_of {t : List (Str × List Str)} {c : Str} {as : List Str} {fs : List (Str × U)} {env : Ev} {G : Gp} {D : Ends} {ρ : List Addr} {H : Hp} {σ : St} {dd : Addr} {vfs : List (Str × V)} (hZ : Z.er = none) (hm : (c, as) ∈ t) (S : Sim (kz X Z) ρ G H) (e : REq (kz X Z) ρ H env σ) (ed : H dd = some (.xd vfs)) (rf : RFs (kz X Z) ρ H fs vfs) :
    ∀ {hds : List ExceptHandler} {l : List Hd}, FHs X Z t hds l → PostS (kz X Z) ρ H (goH as c fs env G l) D W → wManyA X.K W D (hdL X.K Z t l) (.ref (He.ga X.K c)) (some dd) σ H
  | _, _, .nil, h => h σ dd vfs ρ H pre_refl Stb.refl S e ed rf
  | _, _, .cons (x := x) (s := s) (l := l) hc hx hsu r, h => by
    have h : PostS (kz X Z) ρ H (if as.contains x = true then noExc (s c fs env G) else goH as c fs env G l) D W := h
    refine ⟨as.contains x, hx c as hm, fun hb a na => ?_, fun hb => ?_⟩
    · rw [if_pos hb] at h
      exact ⟨c, fs, dd, rfl, rfl, List.mem_map_of_mem (f := Prod.fst) hm, ρ, G, env, S.zc ⟨S.z, vfs, ed, rf⟩, ⟨e.1.zc, fun i a h => nomatch (show (none : Option (Nat × Addr)) = some (i, a) from h)⟩, post_in hZ h⟩
    · rw [if_neg (by rw [hb]; decide)] at h
      exact many_of hZ hm S e ed rf r h
  | _, _, .as (x := x) (i := i) (s := s) (l := l) hc hx hi hln hsu r, h => by
    have h : PostS (kz X Z) ρ H (if as.contains x = true then unE i (s c fs (env.set i none) G) else goH as c fs env G l) D W := h
    refine ⟨as.contains x, hx c as hm, fun hb a na => ?_, fun hb => ?_⟩
    · rw [if_pos hb] at h
      refine ⟨c, fs, dd, rfl, rfl, List.mem_map_of_mem (f := Prod.fst) hm, ρ, G, env.set i none, S.zc ⟨S.z, vfs, ed, rf⟩, ⟨(set_none_any _ e.1 i).zc, fun j b hj hn => ?_⟩, post_in_as hZ i h⟩
      have hj : some (i, a) = some (j, b) := hj
      cases hj
      have hl : i < env.length := by
        have := (List.getElem?_eq_some_iff.mp hn).1
        rwa [List.length_set] at this
      rw [List.getElem?_set_self (by rw [← e.1.len]; exact hl)]
    · rw [if_neg (by rw [hb]; decide)] at h
      exact many_of hZ hm S e ed rf r h
theorem mem_of_lookup' {t : List (Str × List Str)} {c : Str} {as : List Str} (h : t.lookup c = some as) : (c, as) ∈ t := PySem.mem_of_lookup h
theorem fstry {body : List Stmt} {h₀ : ExceptHandler} {hds : List ExceptHandler} {l : List Hd} {t : List (Str × List Str)} {g : Ev → Gp → SR} {pos : Pos} (hZ : Z.er = none) (hs : X.stack = X.env :: X.outer) (hf : X.env.frame = some X.env.locals) (hN : X.N.Nodup) (tk : Takes X W)
    (hb : ∀ (W' : WX) (pn : List (Addr × Obj)) (xe : Value → Shared → Prop), Takes (X.tr pn xe) W' → PassesOwn (model X.prog X.w) X.A X.env xe → FSs (X.tr pn xe) Z W' body g)
    (hh : FHs X Z t (h₀ :: hds) l) : FS X Z W (.Try body (h₀ :: hds) [] [] pos) (sTry t g l) := by
  refine PSimp (ps_try_A (tb := fun W' => tS (kz X Z) W' g) hs hf hN tk hb (hdsA_of hh)) fun D σ H ⟨ρ, G, env, S, e, h⟩ => ?_
  refine ⟨ρ, G, env, S, e, ?_⟩
  unfold sTry at h
  cases q : g env G with
  | nx e' G' => rw [q] at h; exact h
  | ret u G' => rw [q] at h; exact h
  | brk e' G' => rw [q] at h; exact h
  | ct e' G' => rw [q] at h; exact h
  | bad => rw [q] at h; exact h
  | exc c fs env' G' =>
    rw [q] at h
    simp only at h
    cases qt : t.lookup c with
    | none => rw [qt] at h; exact h.elim
    | some as =>
      rw [qt] at h
      intro σ' d vfs ρ' H' p s S' e' ed rf
      exact many_of hZ (mem_of_lookup' qt) S' e' ed rf hh (h.lift p s)
end
/-! ### the handled error: its fields, isinstance -/
def eXf (i : Nat) (fs : List (Str × U)) (f : Str) : Ev → Gp → R U := fun env G => match env[i]? with
  | some none => match fs.lookup f with
    | some u => .ok u G
    | none => .bad
  | _ => .bad
def eXis (i : Nat) (b : Bool) : Ev → Gp → R U := fun env G => match env[i]? with
  | some none => .ok (.bl b) G
  | _ => .bad
theorem lookup_rel {K : KZ} {ρ : List Addr} {H : Hp} {f : Str} {u : U} : ∀ {fs : List (Str × U)} {vfs : List (Str × V)}, RFs K ρ H fs vfs → fs.lookup f = some u → ∃ v, vfs.lookup f = some v ∧ RU K ρ H u v
  | [], _, _, h => by simp at h
  | (g, x) :: fs, [], r, h => by have := r.1; simp at this
  | (g, x) :: fs, (g', y) :: vfs, r, h => by
    obtain ⟨r1, r2⟩ := r
    simp only [List.map_cons, List.cons.injEq] at r1 r2
    obtain ⟨rfl, r1⟩ := r1
    cases r2 with
    | cons hx ht =>
      rw [List.lookup_cons] at h ⊢
      by_cases hg : (f == g) = true
      · rw [hg] at h ⊢
        cases h
        exact ⟨y, rfl, hx⟩
      · have hg : (f == g) = false := by simpa using hg
        rw [hg] at h ⊢
        exact lookup_rel (fs := fs) (vfs := vfs) ⟨r1, ht⟩ h
/-- what the written part says of a class of errors, for its fields and isinstance -/
structure XiK (K : PySem.W.Frag) (C : Addr) : Prop where
  xf : XfC K C
  ha : PySem.W.findIn K (.ref C) "__class__" = some (some (.builtin "object.__class__"))
  hn : PySem.W.specialIn K (.builtin "object.__class__") "__get__" = some (some (.builtin "getset_descriptor.__get__"))
  ht : PySem.W.takesIn K (.builtin "object.__class__") = some true
  hm : PySem.W.mroIn K C (.type "object") = some true
def xiB (K : PySem.W.Frag) (C : Addr) : Bool := xfB K C && (decide (PySem.W.findIn K (.ref C) "__class__" = some (some (.builtin "object.__class__"))) && (decide (PySem.W.specialIn K (.builtin "object.__class__") "__get__" = some (some (.builtin "getset_descriptor.__get__"))) &&
  (decide (PySem.W.takesIn K (.builtin "object.__class__") = some true) && decide (PySem.W.mroIn K C (.type "object") = some true))))
theorem xiB_ok {K : PySem.W.Frag} {C : Addr} (h : xiB K C = true) : XiK K C := by
  obtain ⟨h1, h⟩ := Bool.and_eq_true_iff.mp h
  obtain ⟨h2, h⟩ := Bool.and_eq_true_iff.mp h
  obtain ⟨h3, h⟩ := Bool.and_eq_true_iff.mp h
  obtain ⟨h4, h5⟩ := Bool.and_eq_true_iff.mp h
  exact ⟨xfB_ok h1, of_decide_eq_true h2, of_decide_eq_true h3, of_decide_eq_true h4, of_decide_eq_true h5⟩
section
variable {X : Cx} {Z : ZZ X.K} {W : WX} {a : Addr} {oe : Obj} {c : Str} {fs : List (Str × U)} {dd : Addr} {pn : List (Addr × Obj)} {i : Nat} {n f : Str} {p pos : Pos}
theorem tErr {Z : ZZ X.K} {W : WX} {σ : St} {H : Hp} {ρ : List Addr} {env : Ev} (e : REq (kz X (zE Z (some (i, a)) fs dd)) ρ H env σ) (hq : env[i]? = some none) : σ[i]? = some (some (.ref a)) := e.2 i a rfl hq
theorem fxf (T : XfC X.K (He.ga X.K c)) (hno : PySem.W.findIn X.K (.ref (He.ga X.K c)) f = some none) (hz : Zc (.ref (He.ga X.K c)) (some dd) oe) (hf : ∃ vs, oe.data = .fields vs)
    (hN : X.N[i]? = some n := by rfl) (hv : Vis X.env.scope n := by first | exact Or.inl rfl | exact Or.inr (Or.inl rfl) | exact Or.inr (Or.inr rfl)) (hd : (n == ("__debug__" : Str)) = false := by decide) (hcd : (n == ("__classdict__" : Str)) = false := by decide)
    (hb : attributeBase (.Name n p) f X.env (eval (.Name n p) X.env) = eval (.Name n p) X.env := by rfl) : FE (SuX X a oe pn) (zE Z (some (i, a)) fs dd) W (.Attribute (.Name n p) f pos) (eXf i fs f) := by
  refine PEimp (pe_xf (te := tVar i) T hno hz hf (pe_var (X := SuX X a oe pn) hN hv hd hcd) hb) fun σ H Q ⟨ρ, G, env, S, e, h⟩ => ?_
  unfold eXf at h
  cases q : env[i]? with
  | none => rw [q] at h; exact h.elim
  | some o =>
    cases o with
    | some _ => rw [q] at h; exact h.elim
    | none =>
      rw [q] at h
      simp only at h
      cases q2 : fs.lookup f with
      | none => rw [q2] at h; exact h.elim
      | some u =>
        rw [q2] at h
        obtain ⟨_, vfs, ed, rf⟩ := S.z
        obtain ⟨v, ev, rv⟩ := lookup_rel rf q2
        exact ⟨.ref a, e.2 i a rfl q, rfl, rfl, dd, vfs, v, rfl, ed, ev, h.end_ S rv.zc⟩
/-- isinstance of the handled error -/
def rXis (K : PySem.W.Frag) (a C dd : Addr) : List V → Hp → VK → Prop := fun xs H Q => (∃ vfs, H dd = some (.xd vfs)) ∧
  ((∃ (c : V) (cv : Value) (b : Bool), xs = [.ref a, c] ∧ ClsV c cv ∧ PySem.W.kitOne K (.ref C) cv = some b ∧ Q (.bl b) H) ∨
    (∃ (tp : Addr) (cs : List V) (us : List Value) (b : Bool), xs = [.ref a, .ref tp] ∧ H tp = some (.tup cs) ∧ Paired ClsV cs us ∧ PySem.W.kitAny K (.ref C) us = some b ∧ Q (.bl b) H))
theorem call_xis {C : Addr} (T : XiK X.K C) (hz : Zc (.ref C) (some dd) oe) (hf : ∃ vs, oe.data = .fields vs) : CallR (SuX X a oe pn) (.builtin "isinstance") (rXis X.K a C dd) := by
  intro pins s σ H xs us Q I r h
  obtain ⟨⟨vfs, ed⟩, h⟩ := h
  obtain ⟨hget, _⟩ := I.pin (a, oe) (List.mem_append.mpr (.inl List.mem_cons_self))
  obtain ⟨vs, hv⟩ := hf
  obtain ⟨mA, hns, _⟩ := (show ObjOk X.prog X.w H s.heap dd (.xd vfs) from I.hok dd _ ed)
  obtain ⟨od, ho, hl⟩ := lookIn_ns hns
  have J : PySem.W.InstAt s.heap a oe C (some od) := ⟨hget, hz.1, by unfold PySem.W.notCls; rw [hv] <;> rfl, by rw [hz.2]; exact ho⟩
  have hcl : (PySem.W.clsIn X.K C).isSome = true := by obtain ⟨cd, hc, _⟩ := PySem.W.any_some T.xf.hdC; rw [hc]; rfl
  have kit : PySem.W.KitX X.K (.ref a) (.ref C) (fun h => PySem.W.InstAt h a oe C (some od)) := PySem.W.kitx_exc hcl T.xf.ga T.xf.gg T.xf.exC T.ha T.hn T.ht T.hm
  rcases h with ⟨c, cv, b, rfl, hcv, e, q⟩ | ⟨tp, cs, ws, b, rfl, hT, k, e, q⟩
  · obtain ⟨u1, u2, rfl, r1, r2⟩ := vals2 r
    cases (show u1 = Value.ref a from r1)
    have ec := hcv.eq r2
    subst ec
    exact PySem.W.kia_one kit I.kIn J e (fun z => nomatch z) fun tk => ⟨.bl b, H, I.tok tk, rfl, q⟩
  · obtain ⟨u1, u2, rfl, r1, r2⟩ := vals2 r
    cases (show u1 = Value.ref a from r1)
    cases (show u2 = Value.ref tp from r2)
    obtain ⟨_, its, rv, o, h1, h2, n, h3⟩ := (show ObjOk X.prog X.w H s.heap tp (.tup cs) from I.hok tp _ hT)
    have e3 := ClsV.all k rv
    subst e3
    obtain ⟨oc, od', dt, sl⟩ := o
    simp only at h2 h3
    subst h2 h3
    exact PySem.W.kia_tup kit I.kIn J h1 e (fun z => nomatch z) fun tk => ⟨.bl b, H, I.tok tk, rfl, q⟩
/-- a row of classes, written -/
def tCs (vs : List V) : TA := fun _ H Q => Q vs H
theorem pcs_nil {X : Cx} : PA X [] (tCs []) := pa_nil
theorem pcs_cons {X : Cx} {e : Expr} {es : List Expr} {v : V} {vs : List V} (h : PE X e (tC v)) (t : PA X es (tCs vs)) (hs : starEach (e :: es) X.env = (false, eval e X.env) :: starEach es X.env := by rfl) : PA X (e :: es) (tCs (v :: vs)) := pa_cons h t hs
theorem fxis1 {t : Expr} {cv : V} {cval : Value} {b : Bool} {p2 : Pos} (T : XiK X.K (He.ga X.K c)) (hz : Zc (.ref (He.ga X.K c)) (some dd) oe) (hf : ∃ vs, oe.data = .fields vs) (hm : X.mg "isinstance" = none) (ht : PE (SuX X a oe pn) t (tC cv)) (hcv : ClsV cv cval) (hb : PySem.W.kitOne X.K (.ref (He.ga X.K c)) cval = some b)
    (hg : Gl X "isinstance" := by rfl) (hN : X.N[i]? = some n := by rfl) (hv : Vis X.env.scope n := by first | exact Or.inl rfl | exact Or.inr (Or.inl rfl) | exact Or.inr (Or.inr rfl)) (hd : (n == ("__debug__" : Str)) = false := by decide) (hcd : (n == ("__classdict__" : Str)) = false := by decide)
    (he : starEach [.Name n p, t] X.env = (false, eval (.Name n p) X.env) :: starEach [t] X.env := by rfl) (he2 : starEach [t] X.env = (false, eval t X.env) :: starEach [] X.env := by rfl) (hpl : (backTo pos (starEach [t] X.env)).any (·.1) = false := by rfl) :
    FE (SuX X a oe pn) (zE Z (some (i, a)) fs dd) W (.Call (.Name "isinstance" p2) [.Name n p, t] [] pos) (eXis i b) := by
  refine PEimp (pe_callB (t := tCons (tVar i) (tCs [cv])) (call_xis T hz hf) hg hm (by decide +kernel) (pa_cons (pe_var (X := SuX X a oe pn) hN hv hd hcd) (pcs_cons ht pcs_nil he2) he) (by decide) (by decide) he hpl) fun σ H Q ⟨ρ, G, env, S, e, h⟩ => ?_
  unfold eXis at h
  cases q : env[i]? with
  | none => rw [q] at h; exact h.elim
  | some o =>
    cases o with
    | some _ => rw [q] at h; exact h.elim
    | none =>
      rw [q] at h
      obtain ⟨_, vfs, ed, rf⟩ := S.z
      exact ⟨.ref a, e.2 i a rfl q, ⟨vfs, ed⟩, .inl ⟨cv, cval, b, rfl, hcv, hb, h.end_ S (.bl _)⟩⟩
theorem fxisT {ts : List Expr} {cvs : List V} {cvals : List Value} {b : Bool} {p2 p3 : Pos} {k3 : Nat} (T : XiK X.K (He.ga X.K c)) (hz : Zc (.ref (He.ga X.K c)) (some dd) oe) (hf : ∃ vs, oe.data = .fields vs) (hm : X.mg "isinstance" = none) (ht : PA (SuX X a oe pn) ts (tCs cvs)) (hcv : Paired ClsV cvs cvals) (hb : PySem.W.kitAny X.K (.ref (He.ga X.K c)) cvals = some b) (hl : cvs.length ≤ sizeLine)
    (hg : Gl X "isinstance" := by rfl) (hN : X.N[i]? = some n := by rfl) (hv : Vis X.env.scope n := by first | exact Or.inl rfl | exact Or.inr (Or.inl rfl) | exact Or.inr (Or.inr rfl)) (hd : (n == ("__debug__" : Str)) = false := by decide) (hcd : (n == ("__classdict__" : Str)) = false := by decide)
    (he : starEach [.Name n p, .Tuple ts k3 p3] X.env = (false, eval (.Name n p) X.env) :: starEach [.Tuple ts k3 p3] X.env := by rfl) (he2 : starEach [.Tuple ts k3 p3] X.env = (false, eval (.Tuple ts k3 p3) X.env) :: starEach [] X.env := by rfl) (hpl : (backTo pos (starEach [.Tuple ts k3 p3] X.env)).any (·.1) = false := by rfl) :
    FE (SuX X a oe pn) (zE Z (some (i, a)) fs dd) W (.Call (.Name "isinstance" p2) [.Name n p, .Tuple ts k3 p3] [] pos) (eXis i b) := by
  refine PEimp (pe_callB (t := tCons (tVar i) (tCons (tTup (tCs cvs)) tNil)) (call_xis T hz hf) hg hm (by decide +kernel) (pa_cons (pe_var (X := SuX X a oe pn) hN hv hd hcd) (pa_cons (pe_tup ht) pa_nil he2) he) (by decide) (by decide) he hpl) fun σ H Q ⟨ρ, G, env, S, e, h⟩ => ?_
  unfold eXis at h
  cases q : env[i]? with
  | none => rw [q] at h; exact h.elim
  | some o =>
    cases o with
    | some _ => rw [q] at h; exact h.elim
    | none =>
      rw [q] at h
      obtain ⟨_, vfs, ed, rf⟩ := S.z
      refine ⟨.ref a, e.2 i a rfl q, hl, fun tp hn => ⟨⟨vfs, by rw [upd_ne (ne_of_none ed hn)]; exact ed⟩, .inr ⟨tp, cvs, cvals, b, rfl, upd_same, hcv, hb, ?_⟩⟩⟩
      have st : Stb (kz X (zE Z (some (i, a)) fs dd)) H (upd H tp (.tup cvs)) := stb_new hn
      exact Post.end_ (Post.lift h pre_refl st) (S.tup hn) (.bl _)
end
/-! ### isinstance of values -/
def tyN (G : Gp) (u : U) : Option String := match u with
  | .non => some "NoneType"
  | .bl _ => some "bool"
  | .int _ => some "int"
  | .str _ => some "str"
  | .tup _ => some "tuple"
  | .rl _ => some "list"
  | .wt _ => some "tuple"
  | .ref l => match G[l]? with
    | some (.lst _) => some "list"
    | _ => none
def eIs (tbl : List (String × Bool)) (f : Ev → Gp → R U) : Ev → Gp → R U := fun env G => (f env G).bind fun u G1 => match tyN G1 u with
  | some n => match tbl.lookup n with
    | some b => .ok (.bl b) G1
    | none => .bad
  | none => .bad
theorem mem_of_lookupS {n : String} {b : Bool} : ∀ {tbl : List (String × Bool)}, tbl.lookup n = some b → (n, b) ∈ tbl
  | [], h => by simp at h
  | (m, c) :: r, h => by
    rw [List.lookup_cons] at h
    by_cases hm : (n == m) = true
    · rw [hm] at h
      cases h
      rw [eq_of_beq hm]
      exact List.mem_cons_self
    · have hm : (n == m) = false := by simpa using hm
      rw [hm] at h
      exact List.mem_cons_of_mem _ (mem_of_lookupS h)
theorem tyN_ok {K : KZ} {ρ : List Addr} {G : Gp} {H : Hp} {u : U} {v : V} {n : String} (S : Sim K ρ G H) (r : RU K ρ H u v) (h : tyN G u = some n) : TyX K.K H v (.type n) := by
  cases r with
  | non => cases h; exact .base .non
  | bl b => cases h; exact .base (.bl b)
  | int i => cases h; exact .base (.int i)
  | str x => cases h; exact .base (.str x)
  | tup ht _ =>
    cases h
    exact .base (.tup ht)
  | wt ht _ =>
    cases h
    obtain ⟨o, its, n, hk, hc, _⟩ := ht
    exact .kTuple hk hc
  | rl ht _ =>
    cases h
    rcases ht with ⟨o, ht⟩ | ⟨o, its, n, hk, hc, _⟩
    · exact .base (.frz ht)
    · exact .kList hk hc
  | @ref l a ha =>
    unfold tyN at h
    simp only at h
    cases q : G[l]? with
    | none => rw [q] at h; exact nomatch h
    | some o =>
      rw [q] at h
      cases o with
      | lst xs =>
        cases h
        obtain ⟨vs, e, _⟩ := S.list ha q
        exact .base (.lst e)
      | _ => exact nomatch h
section
variable {X : Cx} {Z : ZZ X.K} {W : WX} {e t : Expr} {f : Ev → Gp → R U} {p2 p3 pos : Pos} {tbl : List (String × Bool)}
theorem fis1 {cv : V} {cval : Value} (hm : X.mg "isinstance" = none) (he : FE X Z W e f) (ht : PE X t (tC cv)) (hcv : ClsV cv cval) (hb : ∀ n b, (n, b) ∈ tbl → PySem.W.kitOne X.K (.type n) cval = some b)
    (hg : Gl X "isinstance" := by rfl) (hs : starEach [e, t] X.env = (false, eval e X.env) :: starEach [t] X.env := by rfl) (hs2 : starEach [t] X.env = (false, eval t X.env) :: starEach [] X.env := by rfl) (hpl : (backTo pos (starEach [t] X.env)).any (·.1) = false := by rfl) :
    FE X Z W (.Call (.Name "isinstance" p2) [e, t] [] pos) (eIs tbl f) := by
  refine PEimp (pe_callB (t := tCons (tF (kz X Z) W f) (tCs [cv])) call_isi hg hm (by decide +kernel) (pa_cons he (pcs_cons ht pcs_nil hs2) hs) (by decide) (by decide) hs hpl) fun σ H Q ⟨ρ, G, env, S, e, h⟩ => ?_
  refine tG_mono (step S e h) fun v H1 ⟨ρ1, G1, x, p1, s1, S1, e1, r1, h1⟩ => ?_
  cases q : tyN G1 x with
  | none => rw [q] at h1; exact h1.elim
  | some n =>
    rw [q] at h1
    simp only at h1
    cases q2 : tbl.lookup n with
    | none => rw [q2] at h1; exact h1.elim
    | some b => rw [q2] at h1; exact ⟨v, cv, .type n, cval, b, rfl, hcv, tyN_ok S1 r1 q, hb n b (mem_of_lookupS q2), h1.end_ S1 (.bl _)⟩
theorem fisT {ts : List Expr} {cvs : List V} {cvals : List Value} {k3 : Nat} (hm : X.mg "isinstance" = none) (he : FE X Z W e f) (ht : PA X ts (tCs cvs)) (hcv : Paired ClsV cvs cvals) (hb : ∀ n b, (n, b) ∈ tbl → PySem.W.kitAny X.K (.type n) cvals = some b) (hl : cvs.length ≤ sizeLine)
    (hg : Gl X "isinstance" := by rfl) (hs : starEach [e, .Tuple ts k3 p3] X.env = (false, eval e X.env) :: starEach [.Tuple ts k3 p3] X.env := by rfl) (hs2 : starEach [.Tuple ts k3 p3] X.env = (false, eval (.Tuple ts k3 p3) X.env) :: starEach [] X.env := by rfl) (hpl : (backTo pos (starEach [.Tuple ts k3 p3] X.env)).any (·.1) = false := by rfl) :
    FE X Z W (.Call (.Name "isinstance" p2) [e, .Tuple ts k3 p3] [] pos) (eIs tbl f) := by
  refine PEimp (pe_callB (t := tCons (tF (kz X Z) W f) (tCons (tTup (tCs cvs)) tNil)) call_isiT hg hm (by decide +kernel) (pa_cons he (pa_cons (pe_tup ht) pa_nil hs2) hs) (by decide) (by decide) hs hpl) fun σ H Q ⟨ρ, G, env, S, e, h⟩ => ?_
  refine tG_mono (step S e h) fun v H1 ⟨ρ1, G1, x, p1, s1, S1, e1, r1, h1⟩ => ?_
  cases q : tyN G1 x with
  | none => rw [q] at h1; exact h1.elim
  | some n =>
    rw [q] at h1
    simp only at h1
    cases q2 : tbl.lookup n with
    | none => rw [q2] at h1; exact h1.elim
    | some b =>
      rw [q2] at h1
      refine ⟨hl, fun tp hn => ?_⟩
      have st : Stb (kz X Z) H1 (upd H1 tp (.tup cvs)) := stb_new hn
      exact ⟨v, tp, cvs, .type n, cvals, b, rfl, upd_same, hcv, tyN_ok (S1.tup hn) (r1.mono pre_refl st) q, hb n b (mem_of_lookupS q2), Post.end_ (Post.lift h1 pre_refl st) (S1.tup hn) (.bl _)⟩
end
/-! the usual classes -/
def tyAll (p : String → Bool) : List (String × Bool) := ["NoneType", "bool", "int", "str", "tuple", "list", "dict"].map fun n => (n, p n)
def tbInt := tyAll fun n => n == "int" || n == "bool"
def tbBool := tyAll fun n => n == "bool"
def tbStr := tyAll fun n => n == "str"
def tbTup := tyAll fun n => n == "tuple"
def tbLst := tyAll fun n => n == "list"
def tbSeq := tyAll fun n => n == "tuple" || n == "list"
section
variable {K : PySem.W.Frag}
theorem kOne {c : String} {tbl : List (String × Bool)} (h : tbl.all (fun p => kitB p.1 c == some p.2) = true) : ∀ n b, (n, b) ∈ tbl → PySem.W.kitOne K (.type n) (.type c) = some b := fun n b hm => kit_ty (beq_iff_eq.mp (List.all_eq_true.mp h (n, b) hm))
def kitBs (a : String) : List String → Option Bool
  | [] => some false
  | c :: r => match kitB a c with
    | some true => some true
    | some false => kitBs a r
    | none => none
theorem kitBs_ok {a : String} : ∀ {cs : List String} {b : Bool}, kitBs a cs = some b → PySem.W.kitAny K (.type a) (cs.map Value.type) = some b
  | [], b, h => h
  | c :: r, b, h => by
    unfold kitBs at h
    rw [List.map_cons]
    unfold PySem.W.kitAny
    cases q : kitB a c with
    | none => rw [q] at h; exact nomatch h
    | some k =>
      rw [q] at h
      rw [kit_ty (K := K) q]
      cases k with
      | true => exact h
      | false => exact kitBs_ok h
theorem kAny {cs : List String} {tbl : List (String × Bool)} (h : tbl.all (fun p => kitBs p.1 cs == some p.2) = true) : ∀ n b, (n, b) ∈ tbl → PySem.W.kitAny K (.type n) (cs.map Value.type) = some b := fun n b hm => kitBs_ok (beq_iff_eq.mp (List.all_eq_true.mp h (n, b) hm))
theorem kInt : ∀ n b, (n, b) ∈ tbInt → PySem.W.kitOne K (.type n) (.type "int") = some b := kOne (by decide +kernel)
theorem kBool : ∀ n b, (n, b) ∈ tbBool → PySem.W.kitOne K (.type n) (.type "bool") = some b := kOne (by decide +kernel)
theorem kStr : ∀ n b, (n, b) ∈ tbStr → PySem.W.kitOne K (.type n) (.type "str") = some b := kOne (by decide +kernel)
theorem kTup : ∀ n b, (n, b) ∈ tbTup → PySem.W.kitOne K (.type n) (.type "tuple") = some b := kOne (by decide +kernel)
theorem kLst : ∀ n b, (n, b) ∈ tbLst → PySem.W.kitOne K (.type n) (.type "list") = some b := kOne (by decide +kernel)
theorem kTL : ∀ n b, (n, b) ∈ tbSeq → PySem.W.kitAny K (.type n) (["tuple", "list"].map Value.type) = some b := kAny (by decide +kernel)
theorem kLT : ∀ n b, (n, b) ∈ tbSeq → PySem.W.kitAny K (.type n) (["list", "tuple"].map Value.type) = some b := kAny (by decide +kernel)
end
section
variable {X : Cx} {Z : ZZ X.K} {W : WX} {e : Expr} {f : Ev → Gp → R U} {p2 p3 p4 p5 pos : Pos}
theorem clsTy {x : Str} {T : String} (hm : X.mg x = none) (hv : bootBuiltins x = some (.type T)) (hg : Gl X x) (hn : x ≠ "__name__") (hd : (x == ("__debug__" : Str)) = false) : PE X (.Name x p2) (tC (.ty T)) := pe_bltn hg hm hv rfl hn hd
theorem fisInt (hm : X.mg "isinstance" = none) (hi : X.mg "int" = none) (he : FE X Z W e f) (hg : Gl X "isinstance" := by rfl) (hgi : Gl X "int" := by rfl) (hs : starEach [e, .Name "int" p3] X.env = (false, eval e X.env) :: starEach [.Name "int" p3] X.env := by rfl) (hs2 : starEach [.Name "int" p3] X.env = (false, eval (.Name "int" p3) X.env) :: starEach [] X.env := by rfl) (hpl : (backTo pos (starEach [.Name "int" p3] X.env)).any (·.1) = false := by rfl) :
    FE X Z W (.Call (.Name "isinstance" p2) [e, .Name "int" p3] [] pos) (eIs tbInt f) := fis1 hm he (clsTy hi (by decide +kernel) hgi (by decide) (by decide)) (.ty _) kInt hg hs hs2 hpl
theorem fisBool (hm : X.mg "isinstance" = none) (hi : X.mg "bool" = none) (he : FE X Z W e f) (hg : Gl X "isinstance" := by rfl) (hgi : Gl X "bool" := by rfl) (hs : starEach [e, .Name "bool" p3] X.env = (false, eval e X.env) :: starEach [.Name "bool" p3] X.env := by rfl) (hs2 : starEach [.Name "bool" p3] X.env = (false, eval (.Name "bool" p3) X.env) :: starEach [] X.env := by rfl) (hpl : (backTo pos (starEach [.Name "bool" p3] X.env)).any (·.1) = false := by rfl) :
    FE X Z W (.Call (.Name "isinstance" p2) [e, .Name "bool" p3] [] pos) (eIs tbBool f) := fis1 hm he (clsTy hi (by decide +kernel) hgi (by decide) (by decide)) (.ty _) kBool hg hs hs2 hpl
theorem fisStr (hm : X.mg "isinstance" = none) (hi : X.mg "str" = none) (he : FE X Z W e f) (hg : Gl X "isinstance" := by rfl) (hgi : Gl X "str" := by rfl) (hs : starEach [e, .Name "str" p3] X.env = (false, eval e X.env) :: starEach [.Name "str" p3] X.env := by rfl) (hs2 : starEach [.Name "str" p3] X.env = (false, eval (.Name "str" p3) X.env) :: starEach [] X.env := by rfl) (hpl : (backTo pos (starEach [.Name "str" p3] X.env)).any (·.1) = false := by rfl) :
    FE X Z W (.Call (.Name "isinstance" p2) [e, .Name "str" p3] [] pos) (eIs tbStr f) := fis1 hm he (clsTy hi (by decide +kernel) hgi (by decide) (by decide)) (.ty _) kStr hg hs hs2 hpl
theorem fisTuple (hm : X.mg "isinstance" = none) (hi : X.mg "tuple" = none) (he : FE X Z W e f) (hg : Gl X "isinstance" := by rfl) (hgi : Gl X "tuple" := by rfl) (hs : starEach [e, .Name "tuple" p3] X.env = (false, eval e X.env) :: starEach [.Name "tuple" p3] X.env := by rfl) (hs2 : starEach [.Name "tuple" p3] X.env = (false, eval (.Name "tuple" p3) X.env) :: starEach [] X.env := by rfl) (hpl : (backTo pos (starEach [.Name "tuple" p3] X.env)).any (·.1) = false := by rfl) :
    FE X Z W (.Call (.Name "isinstance" p2) [e, .Name "tuple" p3] [] pos) (eIs tbTup f) := fis1 hm he (clsTy hi (by decide +kernel) hgi (by decide) (by decide)) (.ty _) kTup hg hs hs2 hpl
theorem fisList (hm : X.mg "isinstance" = none) (hi : X.mg "list" = none) (he : FE X Z W e f) (hg : Gl X "isinstance" := by rfl) (hgi : Gl X "list" := by rfl) (hs : starEach [e, .Name "list" p3] X.env = (false, eval e X.env) :: starEach [.Name "list" p3] X.env := by rfl) (hs2 : starEach [.Name "list" p3] X.env = (false, eval (.Name "list" p3) X.env) :: starEach [] X.env := by rfl) (hpl : (backTo pos (starEach [.Name "list" p3] X.env)).any (·.1) = false := by rfl) :
    FE X Z W (.Call (.Name "isinstance" p2) [e, .Name "list" p3] [] pos) (eIs tbLst f) := fis1 hm he (clsTy hi (by decide +kernel) hgi (by decide) (by decide)) (.ty _) kLst hg hs hs2 hpl
theorem fisTL {k3 : Nat} (hm : X.mg "isinstance" = none) (hi : X.mg "tuple" = none) (hl : X.mg "list" = none) (he : FE X Z W e f) (hg : Gl X "isinstance" := by rfl) (hgi : Gl X "tuple" := by rfl) (hgl : Gl X "list" := by rfl)
    (hs : starEach [e, .Tuple [.Name "tuple" p3, .Name "list" p4] k3 p5] X.env = (false, eval e X.env) :: starEach [.Tuple [.Name "tuple" p3, .Name "list" p4] k3 p5] X.env := by rfl) (hs2 : starEach [.Tuple [.Name "tuple" p3, .Name "list" p4] k3 p5] X.env = (false, eval (.Tuple [.Name "tuple" p3, .Name "list" p4] k3 p5) X.env) :: starEach [] X.env := by rfl)
    (hs3 : starEach [.Name "tuple" p3, .Name "list" p4] X.env = (false, eval (.Name "tuple" p3) X.env) :: starEach [.Name "list" p4] X.env := by rfl) (hs4 : starEach [.Name "list" p4] X.env = (false, eval (.Name "list" p4) X.env) :: starEach [] X.env := by rfl) (hpl : (backTo pos (starEach [.Tuple [.Name "tuple" p3, .Name "list" p4] k3 p5] X.env)).any (·.1) = false := by rfl) :
    FE X Z W (.Call (.Name "isinstance" p2) [e, .Tuple [.Name "tuple" p3, .Name "list" p4] k3 p5] [] pos) (eIs tbSeq f) :=
  fisT hm he (pcs_cons (clsTy hi (by decide +kernel) hgi (by decide) (by decide)) (pcs_cons (clsTy hl (by decide +kernel) hgl (by decide) (by decide)) pcs_nil hs4) hs3) (.cons (.ty _) (.cons (.ty _) .nil)) kTL (by show 2 ≤ sizeLine; rw [line_eq]; decide) hg hs hs2 hpl
end
end FL

set_option Elab.async false
set_option linter.all false
set_option maxRecDepth 100000
set_option maxHeartbeats 4000000
/-! enumerate(tuple): the tuple's twin of the layer's enumerate(list) -/
namespace PySem
set_option maxHeartbeats 4000000 in
theorem meets_enumerate_newT (l : Addr) (items : Array Value) (n : Nat) (dct : Option Addr) (sl : Array (Option Value)) :
    Meets (Builtin.«enumerate.__new__» ⟨[.type "enumerate", .ref l], []⟩) (fun _ R s => s.heap.get? l = some { cls := .type "tuple", dict := dct, data := .seq items n, slots := sl } ∧
      R (.ok (.ret (.ref (s.heap.push { cls := .type "tuple_iterator", data := .fields #[.ref l, .int 0 0] }).objs.size)))
        { s with heap := (s.heap.push { cls := .type "tuple_iterator", data := .fields #[.ref l, .int 0 0] }).push { cls := .type "enumerate", data := .fields #[.none, .bool false, .ref s.heap.objs.size, rawInt 0, .none, .none] } }) :=
  .of_wp fun prog w A R s h => by
    obtain ⟨hp, g, d, tk, os⟩ := s; obtain ⟨hl, h⟩ := h
    have hsub := sub_enumerate
    have hL : Heap.IsTuple (Shared.heap ⟨hp, g, d, tk, os⟩) l items := ⟨_, hl, rfl, n, rfl⟩
    wp_walk using wpAny_loadPart' hl
    refine wpAny_stack_any fun st => wpAny_pure ?_
    split
    · rename_i c _ _ _ _ _
      cases (c == Value.type "enumerate")
      · wp_walk using wpAny_loadPart' hl, wpAny_pyIter_tuple hL
        exact ⟨_, rfl, h⟩
      · wp_walk using wpAny_loadPart' hl, wpAny_pyIter_tuple hL
        exact ⟨_, rfl, h⟩
    · wp_walk using wpAny_loadPart' hl, wpAny_pyIter_tuple hL
      exact ⟨_, rfl, h⟩
section
variable {prog : Program} {w : World} {A : Around} {E : Value → Shared → Prop} {s : Shared}
theorem call_enumerate_tuple {l : Addr} {items : Array Value} {Q : Value → Shared → Prop} (hL : s.heap.IsTuple l items)
    (h : ∀ h', IsEnum h' (s.heap.objs.size + 1) s.heap.objs.size 0 .none → h'.IsTupleIter s.heap.objs.size l 0 → h'.objs.size = s.heap.objs.size + 2 →
      (∀ b o, s.heap.get? b = some o → h'.get? b = some o) → Q (.ref (s.heap.objs.size + 1)) { s with heap := h' }) :
    wpAny (model prog w) A (call (.type "enumerate") [.ref l]) Q E s := by
  obtain ⟨⟨c, dct, dt, sl⟩, hl, hc, n, hd⟩ := hL
  replace hc : c = .type "tuple" := hc
  replace hd : dt = .seq items n := hd
  subst hc hd
  refine callType_new F.called_enumerate (by decide) (F.typeCall_enumerate_1 _) (F.newCall_enumerate_1 _) (fun obj => F.args_object_init_2 obj _) F.entry_enumerate_new
    (meets_enumerate_newT l items n dct sl) ⟨hl, ?_⟩
  have hz : (s.heap.push { cls := .type "tuple_iterator", data := .fields #[.ref l, .int 0 0] }).objs.size = s.heap.objs.size + 1 := Heap.size_push ..
  show _ ∧ _
  rw [hz]
  have he : IsEnum ((s.heap.push { cls := .type "tuple_iterator", data := .fields #[.ref l, .int 0 0] }).push
      { cls := .type "enumerate", data := .fields #[.none, .bool false, .ref s.heap.objs.size, rawInt 0, .none, .none] }) (s.heap.objs.size + 1) s.heap.objs.size 0 .none := by
    have := Heap.get?_push_size (s.heap.push { cls := .type "tuple_iterator", data := .fields #[.ref l, .int 0 0] })
      (o := { cls := .type "enumerate", data := .fields #[.none, .bool false, .ref s.heap.objs.size, rawInt 0, .none, .none] }) rfl
    rw [hz] at this
    exact this
  refine ⟨⟨_, he, rfl⟩, h _ he ⟨_, Heap.get?_push_of_some _ (Heap.get?_push_size _ rfl), rfl, rfl⟩ (by rw [Heap.size_push, hz]) fun b o e => Heap.get?_push_of_some _ (Heap.get?_push_of_some _ e)⟩
theorem enumT_end {e it l : Addr} {i : Nat} {items : Array Value} {old : Value} {Q : Option Value → Shared → Prop} (hh : A.handled = none)
    (he : IsEnum s.heap e it i old) (hit : s.heap.IsTupleIter it l i) (hl : s.heap.IsTuple l items) (hx : items[i]? = none)
    (hQ : ∀ h', Heap.ExtBut it s.heap h' → Q none { s with heap := h' }) : wpAny (model prog w) A (pyNext (.ref e)) Q E s := by
  have hT : s.TypeIs (.ref e) "enumerate" := ⟨_, he, rfl⟩
  unfold pyNext
  refine wpAny_bind (wpAny_attempt (wpAny_callSpecial?_slot (name := Str.ofString "__next__") hT F.slot_enumerate_next
    (wpAny_call_entry F.slot_enumerate_next hT F.entry_enumerate_next ?_ (F.args_enumerate_next_1 _))))
  show wpAny _ _ (field (.ref e) 2 >>= _) _ _ _
  refine wpAny_bind (wpAny_field he rfl (x := .ref it) rfl ?_)
  refine wpAny_bind (wpAny_nextOf_tuple_end hh hit hl hx fun h' x he' hx' => ?_)
  obtain ⟨o, ho, hc⟩ := hx'
  refine wpAny_bind (wpAny_isInstance (T := "StopIteration") (b := true) ⟨o, ho, hc⟩ isSubtype_stop ?_)
  exact wpAny_pure (hQ _ he')
/-! sum, max, min of a tuple of ints -/
open Sem (wp)
variable {l : Addr} {xs : Array (Int × Tok)}
theorem iter_intTup {Q : Value → Shared → Prop} (hl : s.heap.IsTuple l (intItems xs))
    (h : ∀ s₂ : Shared, s₂ = { s with heap := s.heap.push { cls := .type "tuple_iterator", data := .fields #[.ref l, .int 0 0] } } →
      (s₂.heap.IsTupleIter s.heap.objs.size l 0 ∧ s₂.heap.IsTuple l (intItems xs)) → (∀ b ∈ [s.heap.objs.size, l], b < s₂.heap.objs.size) → l ≠ s.heap.objs.size → Q (.ref s.heap.objs.size) s₂) :
    wpAny (model prog w) A (pyIter (.ref l)) Q E s := by
  have hlt : l < s.heap.objs.size := by obtain ⟨_, e, _⟩ := hl; exact Heap.lt_size e
  refine wpAny_pyIter_tuple hl (h _ rfl ⟨⟨_, Heap.get?_push_size _ rfl, rfl, rfl⟩, hl.at fun o e => Heap.get?_push_of_some _ e⟩ (fun b hb => ?_) (Nat.ne_of_lt hlt))
  show b < (s.heap.push _).objs.size
  rw [Heap.size_push]
  rcases List.mem_cons.mp hb with rfl | hb
  · exact Nat.lt_succ_self _
  · rcases List.mem_cons.mp hb with rfl | hb
    · exact Nat.lt_succ_of_lt hlt
    · cases hb
theorem old_keptT {h' : Heap} (hk : ∀ b o, b ∉ [s.heap.objs.size] → (s.heap.push { cls := .type "tuple_iterator", data := .fields #[.ref l, .int 0 0] }).get? b = some o → h'.get? b = some o) :
    ∀ b o, s.heap.get? b = some o → h'.get? b = some o := fun b o e => by
  refine hk b o (fun hm => ?_) (Heap.get?_push_of_some _ e)
  rcases List.mem_cons.mp hm with e1 | hm
  · exact absurd (e1 ▸ Heap.lt_size e) (Nat.lt_irrefl _)
  · cases hm
theorem max_intTup {Q : Value → Shared → Prop} (hh : A.handled = none) (hl : s.heap.IsTuple l (intItems xs)) (hne : 0 < xs.size)
    (h : ∀ v h' tk, (intItems xs)[argBest (fun i j => decide (numAt xs i > numAt xs j)) (xs.size - 1)]? = some v → (∀ b o, s.heap.get? b = some o → h'.get? b = some o) → Q v { s with heap := h', toks := tk }) :
    wpAny (model prog w) A (call (.builtin "max") [.ref l]) Q E s := by
  refine call_max_walk (iter_intTup hl fun s₂ e st hfp hlI => ?_)
  subst e
  refine ⟨_, _, _, _, _, _, _, rfl, Walks.tuple (A := A.in1) hh _ l hlI (intItems xs), st, hfp, by simpa [intItems] using hne, CmpOf.ints_gt (numAt xs) (fun _ _ => intItems_at), fun v h' tk hP hk => ?_⟩
  exact h v h' tk (by simpa [intItems] using hP) (old_keptT hk)
theorem min_intTup {Q : Value → Shared → Prop} (hh : A.handled = none) (hl : s.heap.IsTuple l (intItems xs)) (hne : 0 < xs.size)
    (h : ∀ v h' tk, (intItems xs)[argBest (fun i j => decide (numAt xs i < numAt xs j)) (xs.size - 1)]? = some v → (∀ b o, s.heap.get? b = some o → h'.get? b = some o) → Q v { s with heap := h', toks := tk }) :
    wpAny (model prog w) A (call (.builtin "min") [.ref l]) Q E s := by
  refine call_min_walk (iter_intTup hl fun s₂ e st hfp hlI => ?_)
  subst e
  refine ⟨_, _, _, _, _, _, _, rfl, Walks.tuple (A := A.in1) hh _ l hlI (intItems xs), st, hfp, by simpa [intItems] using hne, CmpOf.ints_lt (numAt xs) (fun _ _ => intItems_at), fun v h' tk hP hk => ?_⟩
  exact h v h' tk (by simpa [intItems] using hP) (old_keptT hk)
theorem sum_intTup {Q : Value → Shared → Prop} (hh : A.handled = none) (hl : s.heap.IsTuple l (intItems xs))
    (h : ∀ h' tk t', (∀ b o, s.heap.get? b = some o → h'.get? b = some o) → Q (.int (preSum (numAt xs) xs.size) t') { s with heap := h', toks := tk }) :
    wpAny (model prog w) A (call (.builtin "sum") [.ref l]) Q E s := by
  refine call_sum_walkG (iter_intTup hl fun s₂ e st hfp hlI => ?_)
  subst e
  refine ⟨_, _, _, _, _, _, numAt xs, rfl, Walks.tuple (A := A.in1) hh _ l hlI (intItems xs), st, hfp, (fun _ _ => intItems_at), fun h' tk t' hk => ?_⟩
  have := h h' tk t' (old_keptT hk)
  simpa [intItems] using this
end
end PySem
namespace L2
open PySem PySem.Spec PyProof.Rows
/-- the tuple at a, each item in a new pair -/
def IteT (K : PySem.W.Frag) (a : Addr) : It :=
  ⟨fun i H => ∃ (xs : List V) (x : V), SqT K H a xs ∧ xs[i]? = some x, fun i H v H' => ∃ T x, v = .ref T ∧ H T = none ∧ H' = upd H T (.tup [.int (i : Nat), x]) ∧ ∀ xs, SqT K H a xs → xs[i]? = some x, fun i H => ∃ xs : List V, SqT K H a xs ∧ xs.length ≤ i⟩
theorem turn_enumT {P : Program} {w : World} {K : PySem.W.Frag} {elts : List Expr} {kk : Nat} {tpos : Pos} (a e it : Addr) (hat : a ≠ it) (hae : a ≠ e) :
    Turn P w K (.Tuple elts kk tpos) (IteT K a) [e, it] e (fun i h => (∃ old, IsEnum h e it ((i : Nat) : Int) old) ∧ h.IsTupleIter it a i ∧ e ≠ it) where
  mem := by simp
  obj := fun i h st b hb => by
    obtain ⟨⟨old, he⟩, ⟨o, ho, hc, hd⟩, _⟩ := st
    have e' : b = e ∨ b = it := by simpa using hb
    rcases e' with z | z
    · rw [z]; exact ⟨_, he, fun v q => nomatch q⟩
    · rw [z]; exact ⟨o, ho, fun v q => by rw [hd] at q; cases q⟩
  keep := fun i h h' st k => let ⟨⟨old, he⟩, hi, hne⟩ := st; ⟨⟨old, k e (by simp) _ he⟩, hi.at fun o q => k it (by simp) o q, hne⟩
  item := by
    intro X hP hw hK hc i pins s σ H E I hf st hg
    subst hP hw hK
    obtain ⟨⟨old, he⟩, hit, hne⟩ := st
    obtain ⟨xs, x, hq, hx⟩ := hg
    obtain ⟨its, rv, p, hz⟩ := I.tuple hq
    obtain ⟨u, hu, ru⟩ := rv.get hx
    have hel : e < s.heap.objs.size := Heap.lt_size he
    have hil : it < s.heap.objs.size := by obtain ⟨_, q, _⟩ := hit; exact Heap.lt_size q
    have hh : X.A.handled = none := I.ok.hd hc
    have D := Draws.tuple (prog := X.prog) (w := X.w) (A := X.A.in1) (by first | exact hh | (show X.A.in1.handled = none; exact hh)) it a hat its.toArray
    have hlt : i < its.toArray.size := by
      have := (List.getElem?_eq_some_iff.mp hu).1
      simpa using this
    refine wpAny_pyNext_enum_itemD D he ⟨hit, (show s.heap.IsTuple a its.toArray from p)⟩ hlt hne (by simp; exact ⟨hne, Ne.symm hae⟩) fun x' h' tk hP ho hst hT hsz hk => ?_
    obtain ⟨hit', _⟩ := hst
    have ex' : x' = u := by
      have hP : its.toArray[i]? = some x' := hP
      rw [List.getElem?_toArray, hu] at hP
      exact (Option.some.inj hP).symm
    subst ex'
    refine ⟨_, rfl, wpAny_letOwnedTupleGo_enum (s := { s with heap := h', toks := tk + 1 }) ho fun h'' he' sb => ?_⟩
    have hT2 : h''.get? s.heap.objs.size = some { cls := .type "tuple", data := .seq #[.int i tk, x'] } := (sb.2 _ (Nat.ne_of_gt hel)).trans hT
    have new : ObjOk X.prog X.w (upd H s.heap.objs.size (.tup [.int (i : Nat), x])) h'' s.heap.objs.size (.tup [.int (i : Nat), x]) :=
      ⟨by show 2 ≤ sizeLine; decide, [.int i tk, x'], .cons ⟨_, rfl⟩ (.cons ru .nil), ⟨_, hT2, rfl, _, rfl⟩⟩
    have I1 : Inv X pins σ (upd H s.heap.objs.size (.tup [.int (i : Nat), x])) { s with heap := h'', toks := tk + 1 } :=
      I.turnedNew (ch := [e, it]) (fun b ob hb q => (sb.2 b (fun z => hb (by simp [z]))).trans (hk b ob (fun z => hb (by simp [z])) (fun z => hb (by simp [z])) q)) hf (Nat.le_refl _) new
    refine ⟨.ref s.heap.objs.size, _, I1, rfl, ⟨_, x, rfl, I.hok.fresh (Nat.le_refl _), rfl, fun ys hy => by rw [I.tuple_inj hy hq]; exact hx⟩, ⟨⟨x', ?_⟩, hit'.at fun o q => (sb.2 it (Ne.symm hne)).trans q, hne⟩, fun b hb => ?_⟩
    · have e1 : ((i + 1 : Nat) : Int) = (i : Int) + 1 := by omega
      rw [e1]; exact he'
    · have hb' : b < s.heap.objs.size := by
        have e' : b = e ∨ b = it := by simpa using hb
        rcases e' with z | z
        · rw [z]; exact hel
        · rw [z]; exact hil
      rw [upd_ne (Nat.ne_of_lt hb')]
      exact (hf b hb).1
  done := by
    intro X hP hw hK hc i pins s σ H E I hf st hg
    subst hP hw hK
    obtain ⟨⟨old, he⟩, hit, hne⟩ := st
    obtain ⟨xs, hq, hx⟩ := hg
    obtain ⟨its, rv, p, hz⟩ := I.tuple hq
    obtain ⟨f0, f1, f2, f3, f4, f5⟩ := hf it (by simp)
    have hl := rv.length
    have hh : X.A.handled = none := I.ok.hd hc
    exact PySem.enumT_end hh he hit (show s.heap.IsTuple a its.toArray from p) (by simp; omega) fun h' eb => ⟨rfl, I.turned (t' := s.toks) (fun b o hb q => eb b o hb q) f0 f1 f3 f4 f5⟩
  self := fun A i s Q E st h => let ⟨⟨_, he⟩, _⟩ := st; wpAny_pyIter_enum he h
end L2

namespace L2
open PySem PySem.Spec PyProof.Rows
section
variable {prog : Program} {w : World} {A : Around} {E : Value → Shared → Prop} {Q : Value → Shared → Prop} {s : Shared} {l : Addr} {its : List Value} {ns : List Int}
theorem sum_rawT (hh : A.handled = none) (hl : s.heap.IsTuple l its.toArray) (hi : IntsAre its ns)
    (h : ∀ h' tk t', (∀ b o, s.heap.get? b = some o → h'.get? b = some o) → Q (.int ns.sum t') { s with heap := h', toks := tk }) : wpAny (model prog w) A (call (.builtin "sum") [.ref l]) Q E s := by
  obtain ⟨xs, e⟩ := hi.allInts.items
  have hn : numsOf (intItems xs).toList = ns := by rw [← e]; exact hi.numsOf
  rw [nums_intItems] at hn
  rw [e] at hl
  refine PySem.sum_intTup hh hl fun h' tk t' hk => ?_
  have := h h' tk t' hk
  rw [preSum_eq, List.take_of_length_le (by simp), hn]; exact this
theorem max_rawT (hh : A.handled = none) (hl : s.heap.IsTuple l its.toArray) (hi : IntsAre its ns) (hne : 0 < ns.length)
    (h : ∀ h' tk M t', (∀ b o, s.heap.get? b = some o → h'.get? b = some o) → M ∈ ns → (∀ a, a ∈ ns → a ≤ M) → Q (.int M t') { s with heap := h', toks := tk }) : wpAny (model prog w) A (call (.builtin "max") [.ref l]) Q E s := by
  obtain ⟨xs, e⟩ := hi.allInts.items
  have hn : numsOf (intItems xs).toList = ns := by rw [← e]; exact hi.numsOf
  rw [nums_intItems] at hn
  subst hn
  rw [e] at hl
  have hsz : 0 < xs.size := by simpa using hne
  refine PySem.max_intTup hh hl hsz fun v h' tk hv hk => ?_
  obtain ⟨t, rfl⟩ := intItems_at hv
  obtain ⟨h1, h2⟩ := argBest_gt (numAt xs) (xs.size - 1)
  refine h h' tk _ t hk ?_ fun a ha => ?_
  · rw [numAt_eq]; exact PySem.getD_mem (by rw [List.length_map, Array.length_toList]; omega)
  · obtain ⟨j, hj, rfl⟩ := mem_getD ha
    rw [List.length_map, Array.length_toList] at hj
    rw [← numAt_eq]; exact h2 j (by omega)
theorem min_rawT (hh : A.handled = none) (hl : s.heap.IsTuple l its.toArray) (hi : IntsAre its ns) (hne : 0 < ns.length)
    (h : ∀ h' tk M t', (∀ b o, s.heap.get? b = some o → h'.get? b = some o) → M ∈ ns → (∀ a, a ∈ ns → M ≤ a) → Q (.int M t') { s with heap := h', toks := tk }) : wpAny (model prog w) A (call (.builtin "min") [.ref l]) Q E s := by
  obtain ⟨xs, e⟩ := hi.allInts.items
  have hn : numsOf (intItems xs).toList = ns := by rw [← e]; exact hi.numsOf
  rw [nums_intItems] at hn
  subst hn
  rw [e] at hl
  have hsz : 0 < xs.size := by simpa using hne
  refine PySem.min_intTup hh hl hsz fun v h' tk hv hk => ?_
  obtain ⟨t, rfl⟩ := intItems_at hv
  obtain ⟨h1, h2⟩ := argBest_lt (numAt xs) (xs.size - 1)
  refine h h' tk _ t hk ?_ fun a ha => ?_
  · rw [numAt_eq]; exact PySem.getD_mem (by rw [List.length_map, Array.length_toList]; omega)
  · obtain ⟨j, hj, rfl⟩ := mem_getD ha
    rw [List.length_map, Array.length_toList] at hj
    rw [← numAt_eq]; exact h2 j (by omega)
end
section
variable {X : Cx}
def rSumQ (K : PySem.W.Frag) : List V → Hp → VK → Prop := fun vs H Q => ∃ (a : Addr) (ns : List Int), vs = [V.ref a] ∧ (SqL K H a (ns.map V.int) ∨ SqT K H a (ns.map V.int)) ∧ Q (.int ns.sum) H
def rMaxQ (K : PySem.W.Frag) : List V → Hp → VK → Prop := fun vs H Q => ∃ (a : Addr) (ns : List Int), vs = [V.ref a] ∧ (SqL K H a (ns.map V.int) ∨ SqT K H a (ns.map V.int)) ∧ 0 < ns.length ∧ ∀ m, m ∈ ns → (∀ y, y ∈ ns → y ≤ m) → Q (.int m) H
def rMinQ (K : PySem.W.Frag) : List V → Hp → VK → Prop := fun vs H Q => ∃ (a : Addr) (ns : List Int), vs = [V.ref a] ∧ (SqL K H a (ns.map V.int) ∨ SqT K H a (ns.map V.int)) ∧ 0 < ns.length ∧ ∀ m, m ∈ ns → (∀ y, y ∈ ns → m ≤ y) → Q (.int m) H
theorem crq_sum (hc : X.calm = true) : CallR X (.builtin "sum") (rSumQ X.K) := by
  intro pins s σ H vs us Q I r h
  obtain ⟨a, ns, rfl, hs | hs, q⟩ := h
  · exact cr_sum hc pins s σ H _ us Q I r ⟨a, ns, rfl, hs, q⟩
  · obtain ⟨its, rv, hl, _⟩ := I.tuple hs
    rw [Vals.ref1 r]
    exact sum_rawT (I.ok.hd hc) (show s.heap.IsTuple a its.toArray from hl) rv.ints fun h' tk t' hk => ⟨.int _, H, I.kept hk, ⟨_, rfl⟩, q⟩
theorem crq_max (hc : X.calm = true) : CallR X (.builtin "max") (rMaxQ X.K) := by
  intro pins s σ H vs us Q I r h
  obtain ⟨a, ns, rfl, hs | hs, hne, q⟩ := h
  · exact cr_max hc pins s σ H _ us Q I r ⟨a, ns, rfl, hs, hne, q⟩
  · obtain ⟨its, rv, hl, _⟩ := I.tuple hs
    rw [Vals.ref1 r]
    exact max_rawT (I.ok.hd hc) (show s.heap.IsTuple a its.toArray from hl) rv.ints hne fun h' tk m t' hk h1 h2 => ⟨.int _, H, I.kept hk, ⟨_, rfl⟩, q m h1 h2⟩
theorem crq_min (hc : X.calm = true) : CallR X (.builtin "min") (rMinQ X.K) := by
  intro pins s σ H vs us Q I r h
  obtain ⟨a, ns, rfl, hs | hs, hne, q⟩ := h
  · exact cr_min hc pins s σ H _ us Q I r ⟨a, ns, rfl, hs, hne, q⟩
  · obtain ⟨its, rv, hl, _⟩ := I.tuple hs
    rw [Vals.ref1 r]
    exact min_rawT (I.ok.hd hc) (show s.heap.IsTuple a its.toArray from hl) rv.ints hne fun h' tk m t' hk h1 h2 => ⟨.int _, H, I.kept hk, ⟨_, rfl⟩, q m h1 h2⟩
def iEnumA (K : PySem.W.Frag) (ta : TA) : TI := fun σ H R => ta σ H fun vs H1 => ∃ a xs, vs = [.ref a] ∧ ((SqL K H1 a xs ∧ R (Ite K a) H1) ∨ (SqT K H1 a xs ∧ R (IteT K a) H1))
theorem pi_enumA {e : Expr} {ta : TA} {p pos tpos : Pos} {elts : List Expr} {kk : Nat} (hg : Gl X "enumerate") (hm : X.mg "enumerate" = none) (ha : PA X [e] ta) (hs : starEach [e] X.env = [(false, eval e X.env)] := by rfl) :
    PI X (.Tuple elts kk tpos) (.Call (.Name "enumerate" p) [e] [] pos) (iEnumA X.K ta) := by
  refine ⟨fun pins s σ H R I h => ?_⟩
  refine Call_ (ld_blt I hg hm boot_enumerate (PyProof.Rows.callWith_type1 (thn (ha.run pos pins s σ H _ I h) fun us s1 ⟨vs, H1, I1, r1, q1⟩ => ?_) hs rfl))
  obtain ⟨a, xs, ex, q⟩ := q1
  subst ex
  have hle : ∀ b, (b = s1.heap.objs.size + 1 ∨ b = s1.heap.objs.size) → s1.heap.objs.size ≤ b := fun b e' => by
    rcases e' with z | z
    · rw [z]; exact Nat.le_add_right _ _
    · rw [z]; exact Nat.le_refl _
  cases r1 with
  | cons r rr =>
    cases rr
    cases r
    rcases q with ⟨hq, q⟩ | ⟨hq, q⟩
    · obtain ⟨its, rv, p', hz⟩ := I1.list hq
      refine call_enumerate_list p'.isList fun h' he hit hsz hk => wpAny_pyIter_enum he ?_
      have I2 : Inv X pins σ H1 { s1 with heap := h' } := I1.kept (t' := s1.toks) hk
      exact ⟨s1.heap.objs.size + 1, [s1.heap.objs.size + 1, s1.heap.objs.size], _, _, H1, rfl, I2, turn_enum a (s1.heap.objs.size + 1) s1.heap.objs.size, ⟨⟨.none, he⟩, hit, Nat.succ_ne_self _⟩, fun b hb => I1.fpOk (hle b (by simpa using hb)) (I1.hok.fresh (hle b (by simpa using hb))), q⟩
    · obtain ⟨its, rv, p', hz⟩ := I1.tuple hq
      have hlt : a < s1.heap.objs.size := p'.lt
      refine PySem.call_enumerate_tuple (show s1.heap.IsTuple a its.toArray from p') fun h' he hit hsz hk => wpAny_pyIter_enum he ?_
      have I2 : Inv X pins σ H1 { s1 with heap := h' } := I1.kept (t' := s1.toks) hk
      exact ⟨s1.heap.objs.size + 1, [s1.heap.objs.size + 1, s1.heap.objs.size], _, _, H1, rfl, I2, turn_enumT a (s1.heap.objs.size + 1) s1.heap.objs.size (Nat.ne_of_lt hlt) (Nat.ne_of_lt (Nat.lt_succ_of_lt hlt)), ⟨⟨.none, he⟩, hit, Nat.succ_ne_self _⟩, fun b hb => I1.fpOk (hle b (by simpa using hb)) (I1.hok.fresh (hle b (by simpa using hb))), q⟩
end
end L2

set_option Elab.async false
set_option linter.all false
set_option maxRecDepth 100000
set_option maxHeartbeats 4000000
set_option autoImplicit false
namespace FL
open PySem PySem.Spec L2

/-! ### sum, max, min of ints -/
def intsU : List U → Option (List Int)
  | [] => some []
  | .int i :: r => (intsU r).map (i :: ·)
  | _ :: _ => none
def maxL : List Int → Int
  | [] => 0
  | [x] => x
  | x :: y :: r => if x < maxL (y :: r) then maxL (y :: r) else x
def minL : List Int → Int
  | [] => 0
  | [x] => x
  | x :: y :: r => if minL (y :: r) < x then minL (y :: r) else x
theorem maxL_spec : ∀ {l : List Int}, l ≠ [] → maxL l ∈ l ∧ ∀ y ∈ l, y ≤ maxL l
  | [], h => absurd rfl h
  | [x], _ => by simp [maxL]
  | x :: y :: r, _ => by
    obtain ⟨h1, h2⟩ := maxL_spec (l := y :: r) (List.cons_ne_nil _ _)
    unfold maxL
    by_cases hx : x < maxL (y :: r)
    · rw [if_pos hx]
      refine ⟨List.mem_cons_of_mem _ h1, fun z hz => ?_⟩
      rcases List.mem_cons.mp hz with e | e
      · rw [e]; omega
      · exact h2 z e
    · rw [if_neg hx]
      refine ⟨List.mem_cons_self, fun z hz => ?_⟩
      rcases List.mem_cons.mp hz with e | e
      · rw [e]; exact Int.le_refl _
      · have := h2 z e; omega
theorem minL_spec : ∀ {l : List Int}, l ≠ [] → minL l ∈ l ∧ ∀ y ∈ l, minL l ≤ y
  | [], h => absurd rfl h
  | [x], _ => by simp [minL]
  | x :: y :: r, _ => by
    obtain ⟨h1, h2⟩ := minL_spec (l := y :: r) (List.cons_ne_nil _ _)
    unfold minL
    by_cases hx : minL (y :: r) < x
    · rw [if_pos hx]
      refine ⟨List.mem_cons_of_mem _ h1, fun z hz => ?_⟩
      rcases List.mem_cons.mp hz with e | e
      · rw [e]; omega
      · exact h2 z e
    · rw [if_neg hx]
      refine ⟨List.mem_cons_self, fun z hz => ?_⟩
      rcases List.mem_cons.mp hz with e | e
      · rw [e]; exact Int.le_refl _
      · have := h2 z e; omega
theorem maxL_eq {l : List Int} {m : Int} (hm : m ∈ l) (h : ∀ y ∈ l, y ≤ m) : m = maxL l := by
  obtain ⟨h1, h2⟩ := maxL_spec (List.ne_nil_of_mem hm)
  have := h _ h1
  have := h2 _ hm
  omega
theorem minL_eq {l : List Int} {m : Int} (hm : m ∈ l) (h : ∀ y ∈ l, m ≤ y) : m = minL l := by
  obtain ⟨h1, h2⟩ := minL_spec (List.ne_nil_of_mem hm)
  have := h _ h1
  have := h2 _ hm
  omega
theorem intsU_map : ∀ (l : List Int), intsU (l.map .int) = some l
  | [] => rfl
  | x :: r => by rw [List.map_cons]; unfold intsU; rw [intsU_map r]; rfl
def bInts (g : List Int → U) (ne : Bool) (us : List U) (G : Gp) : R U := match us with
  | [u] => match seqU G u with
    | some xs => match intsU xs with
      | some ns => if ne = true ∧ ns = [] then .bad else .ok (g ns) G
      | none => .bad
    | none => .bad
  | _ => .bad
abbrev bSum := bInts (fun ns => .int ns.sum) false
abbrev bMax := bInts (fun ns => .int (maxL ns)) true
abbrev bMin := bInts (fun ns => .int (minL ns)) true
section
variable {K : KZ}
theorem intsU_rel {ρ : List Addr} {H : Hp} : ∀ {xs : List U} {vs : List V} {ns : List Int}, RUs K ρ H xs vs → intsU xs = some ns → vs = ns.map V.int
  | _, _, ns, .nil, h => by cases h; rfl
  | _, _, ns, .cons (x := x) (xs := xs) hx ht, h => by
    cases hx with
    | int i =>
      unfold intsU at h
      cases q : intsU xs with
      | none => rw [q] at h; exact nomatch h
      | some ms =>
        rw [q] at h
        cases h
        rw [intsU_rel ht q]; rfl
    | _ => exact nomatch h
theorem bInts_ok {g : List Int → U} {ne : Bool} {ρ : List Addr} {G : Gp} {H : Hp} {us : List U} {vs : List V} {Q : VK} {E : XK} (S : Sim K ρ G H) (r : RUs K ρ H us vs) (h : Post K (RU K) ρ H (bInts g ne us G) Q E) :
    ∃ (a : Addr) (ns : List Int), vs = [.ref a] ∧ (SqL K.K H a (ns.map V.int) ∨ SqT K.K H a (ns.map V.int)) ∧ (ne = true → ns ≠ []) ∧ Post K (RU K) ρ H (.ok (g ns) G) Q E := by
  unfold bInts at h
  split at h
  · rename_i u
    obtain ⟨v, rfl, rv⟩ := r.one
    cases q : seqU G u with
    | none => rw [q] at h; exact h.elim
    | some xs =>
      rw [q] at h
      simp only at h
      cases q2 : intsU xs with
      | none => rw [q2] at h; exact h.elim
      | some ns =>
        rw [q2] at h
        simp only at h
        obtain ⟨p, ws, rfl, hq, hr⟩ := seqU_ok S rv q
        have e := intsU_rel hr q2
        subst e
        by_cases hn : ne = true ∧ ns = []
        · rw [if_pos hn] at h; exact h.elim
        · rw [if_neg hn] at h
          exact ⟨p, ns, rfl, hq, fun h1 h2 => hn ⟨h1, h2⟩, h⟩
  · exact h.elim
theorem oSum : OpN K (rSumQ K.K) bSum := by
  intro ρ G H us vs Q E S r h
  obtain ⟨a, ns, rfl, hq, _, h⟩ := bInts_ok S r h
  exact ⟨a, ns, rfl, hq, h.end_ S (.int _)⟩
theorem oMax : OpN K (rMaxQ K.K) bMax := by
  intro ρ G H us vs Q E S r h
  obtain ⟨a, ns, rfl, hq, hne, h⟩ := bInts_ok S r h
  refine ⟨a, ns, rfl, hq, List.length_pos_iff.mpr (hne rfl), fun m h1 h2 => ?_⟩
  rw [maxL_eq h1 h2]
  exact h.end_ S (.int _)
theorem oMin : OpN K (rMinQ K.K) bMin := by
  intro ρ G H us vs Q E S r h
  obtain ⟨a, ns, rfl, hq, hne, h⟩ := bInts_ok S r h
  refine ⟨a, ns, rfl, hq, List.length_pos_iff.mpr (hne rfl), fun m h1 h2 => ?_⟩
  rw [minL_eq h1 h2]
  exact h.end_ S (.int _)
end
section
variable {X : Cx} {Z : ZZ X.K} {W : WX} {e e2 : Expr} {es : List Expr} {fa : Ev → Gp → R (List U)} {f : Ev → Gp → R U} {p pos tpos : Pos} {kk : Nat} {elts : List Expr}
theorem fsum (hc : X.calm = true) (hm : X.mg "sum" = none) (ha : FA X Z W [e] fa) (hg : Gl X "sum" := by rfl) (he : starEach [e] X.env = (false, eval e X.env) :: starEach [] X.env := by rfl) (hpl : (backTo pos (starEach [] X.env)).any (·.1) = false := by rfl) : FE X Z W (.Call (.Name "sum" p) [e] [] pos) (eCall bSum fa) :=
  fcallB oSum (crq_sum hc) hg hm (by decide +kernel) ha (by decide) (by decide) he hpl
theorem fmax (hc : X.calm = true) (hm : X.mg "max" = none) (ha : FA X Z W [e] fa) (hg : Gl X "max" := by rfl) (he : starEach [e] X.env = (false, eval e X.env) :: starEach [] X.env := by rfl) (hpl : (backTo pos (starEach [] X.env)).any (·.1) = false := by rfl) : FE X Z W (.Call (.Name "max" p) [e] [] pos) (eCall bMax fa) :=
  fcallB oMax (crq_max hc) hg hm (by decide +kernel) ha (by decide) (by decide) he hpl
theorem fmin (hc : X.calm = true) (hm : X.mg "min" = none) (ha : FA X Z W [e] fa) (hg : Gl X "min" := by rfl) (he : starEach [e] X.env = (false, eval e X.env) :: starEach [] X.env := by rfl) (hpl : (backTo pos (starEach [] X.env)).any (·.1) = false := by rfl) : FE X Z W (.Call (.Name "min" p) [e] [] pos) (eCall bMin fa) :=
  fcallB oMin (crq_min hc) hg hm (by decide +kernel) ha (by decide) (by decide) he hpl
theorem fmax2 (hc : X.calm = true) (hm : X.mg "max" = none) (ha : FA X Z W [e, e2] fa) (hg : Gl X "max" := by rfl) (he : starEach [e, e2] X.env = (false, eval e X.env) :: starEach [e2] X.env := by rfl) (hpl : (backTo pos (starEach [e2] X.env)).any (·.1) = false := by rfl) : FE X Z W (.Call (.Name "max" p) [e, e2] [] pos) (eCall bMax2 fa) :=
  fcallB oMax2 (call_max2 hc) hg hm (by decide +kernel) ha (by decide) (by decide) he hpl
theorem fmin2 (hc : X.calm = true) (hm : X.mg "min" = none) (ha : FA X Z W [e, e2] fa) (hg : Gl X "min" := by rfl) (he : starEach [e, e2] X.env = (false, eval e X.env) :: starEach [e2] X.env := by rfl) (hpl : (backTo pos (starEach [e2] X.env)).any (·.1) = false := by rfl) : FE X Z W (.Call (.Name "min" p) [e, e2] [] pos) (eCall bMin2 fa) :=
  fcallB oMin2 (call_min2 hc) hg hm (by decide +kernel) ha (by decide) (by decide) he hpl
theorem flen (hm : X.mg "len" = none) (ha : FA X Z W [e] fa) (hg : Gl X "len" := by rfl) (he : starEach [e] X.env = (false, eval e X.env) :: starEach [] X.env := by rfl) (hpl : (backTo pos (starEach [] X.env)).any (·.1) = false := by rfl) : FE X Z W (.Call (.Name "len" p) [e] [] pos) (eCall bLen fa) :=
  fcallB oLen call_len hg hm (by decide +kernel) ha (by decide) (by decide) he hpl
theorem fabs (hm : X.mg "abs" = none) (ha : FA X Z W [e] fa) (hg : Gl X "abs" := by rfl) (he : starEach [e] X.env = (false, eval e X.env) :: starEach [] X.env := by rfl) (hpl : (backTo pos (starEach [] X.env)).any (·.1) = false := by rfl) : FE X Z W (.Call (.Name "abs" p) [e] [] pos) (eCall bAbs fa) :=
  fcallB oAbs call_abs hg hm (by decide +kernel) ha (by decide) (by decide) he hpl
theorem fcint (hm : X.mg "int" = none) (ha : FA X Z W [e] fa) (hg : Gl X "int" := by rfl) (he : starEach [e] X.env = (false, eval e X.env) :: starEach [] X.env := by rfl) (hpl : (backTo pos (starEach [] X.env)).any (·.1) = false := by rfl) : FE X Z W (.Call (.Name "int" p) [e] [] pos) (eCall bInt fa) :=
  fcallTy oInt call_int1 hg hm (by decide +kernel) ha (by decide) (by decide) he hpl
theorem fctuple (hm : X.mg "tuple" = none) (ha : FA X Z W [e] fa) (hg : Gl X "tuple" := by rfl) (he : starEach [e] X.env = (false, eval e X.env) :: starEach [] X.env := by rfl) (hpl : (backTo pos (starEach [] X.env)).any (·.1) = false := by rfl) : FE X Z W (.Call (.Name "tuple" p) [e] [] pos) (eCall bTuple fa) :=
  fcallTy oTuple call_tuple_of hg hm (by decide +kernel) ha (by decide) (by decide) he hpl
theorem fclist (hm : X.mg "list" = none) (ha : FA X Z W [e] fa) (hg : Gl X "list" := by rfl) (he : starEach [e] X.env = (false, eval e X.env) :: starEach [] X.env := by rfl) (hpl : (backTo pos (starEach [] X.env)).any (·.1) = false := by rfl) : FE X Z W (.Call (.Name "list" p) [e] [] pos) (eCall bList fa) :=
  fcallTy oList call_list_of hg hm (by decide +kernel) ha (by decide) (by decide) he hpl
/-! ### enumerate, zip, reversed(range) -/
def kEnum (us : List U) (G : Gp) : Option Src := match us with
  | [.tup xs] => some (.items (xs.mapIdx fun i x => .tup [.int (i : Nat), x]))
  | [.rl xs] => some (.items (xs.mapIdx fun i x => .tup [.int (i : Nat), x]))
  | [.ref l] => match G[l]? with
    | some (.lst xs) => some (.live (xs.length + 1) fun i G => match G[l]? with
      | some (.lst ys) => some (ys[i]?.map fun x => .tup [.int (i : Nat), x])
      | _ => none)
    | _ => none
  | _ => none
theorem pair_yld {K : KZ} {ρ : List Addr} {G : Gp} {H : Hp} {u w : U} {v z : V} {T : Addr} (S : Sim K ρ G H) (r : RU K ρ H u v) (q : RU K ρ H w z) (hT : H T = none) :
    Stb K H (upd H T (.tup [v, z])) ∧ Sim K ρ G (upd H T (.tup [v, z])) ∧ RU K ρ (upd H T (.tup [v, z])) (.tup [u, w]) (.ref T) :=
  ⟨stb_new hT, S.tup hT, .tup upd_same (.cons (r.mono pre_refl (stb_new hT)) (.cons (q.mono pre_refl (stb_new hT)) .nil))⟩
theorem wk_enumT {K : KZ} {ρ : List Addr} {H : Hp} {xs : List U} {vs : List V} {a : Addr} (h : TupAt K H a vs) (r : RUs K ρ H xs vs) : Wk K ρ H (.items (xs.mapIdx fun i x => .tup [.int (i : Nat), x])) (IteT K.K a) := by
  intro ρ' H' G i p s S
  show match some (xs.mapIdx fun i x => U.tup [.int (i : Nat), x])[i]? with
    | none => True
    | some none => (IteT K.K a).stop i H'
    | some (some u) => (IteT K.K a).go i H' ∧ ∀ x H'', (IteT K.K a).yld i H' x H'' → Stb K H' H'' ∧ Sim K ρ' G H'' ∧ RU K ρ' H'' u x
  have h' := (s.tupAt h).sq
  rw [List.getElem?_mapIdx]
  cases q : xs[i]? with
  | none => exact ⟨vs, h', by rw [← r.len]; exact List.getElem?_eq_none_iff.mp q⟩
  | some u =>
    obtain ⟨v, e, rv⟩ := r.getU q
    refine ⟨⟨vs, v, h', e⟩, fun x H'' y => ?_⟩
    obtain ⟨T, z, rfl, hT, rfl, y⟩ := y
    have := y vs h'
    rw [e] at this; cases this
    exact pair_yld S (.int _) (rv.mono p s) hT
theorem wk_enumR {K : KZ} {ρ : List Addr} {H : Hp} {xs : List U} {vs : List V} {a : Addr} (h : RLs K H a vs) (r : RUs K ρ H xs vs) : Wk K ρ H (.items (xs.mapIdx fun i x => .tup [.int (i : Nat), x])) (Ite K.K a) := by
  intro ρ' H' G i p s S
  show match some (xs.mapIdx fun i x => U.tup [.int (i : Nat), x])[i]? with
    | none => True
    | some none => (Ite K.K a).stop i H'
    | some (some u) => (Ite K.K a).go i H' ∧ ∀ x H'', (Ite K.K a).yld i H' x H'' → Stb K H' H'' ∧ Sim K ρ' G H'' ∧ RU K ρ' H'' u x
  have h' := (s.rls h).sq
  rw [List.getElem?_mapIdx]
  cases q : xs[i]? with
  | none => exact ⟨vs, h', by rw [← r.len]; exact List.getElem?_eq_none_iff.mp q⟩
  | some u =>
    obtain ⟨v, e, rv⟩ := r.getU q
    refine ⟨⟨vs, v, h', e⟩, fun x H'' y => ?_⟩
    obtain ⟨T, z, rfl, hT, rfl, y⟩ := y
    have := y vs h'
    rw [e] at this; cases this
    exact pair_yld S (.int _) (rv.mono p s) hT
theorem wk_enumL {K : KZ} {ρ : List Addr} {H : Hp} {l : Nat} {a : Addr} {n : Nat} (ha : ρ[l]? = some a) : Wk K ρ H (.live n fun i G => match G[l]? with
      | some (.lst ys) => some (ys[i]?.map fun x => .tup [.int (i : Nat), x])
      | _ => none) (Ite K.K a) := by
  intro ρ' H' G i p s S
  show match (match G[l]? with
      | some (.lst ys) => some (ys[i]?.map fun x => .tup [.int (i : Nat), x])
      | _ => none : Option (Option U)) with
    | none => True
    | some none => (Ite K.K a).stop i H'
    | some (some u) => (Ite K.K a).go i H' ∧ ∀ x H'', (Ite K.K a).yld i H' x H'' → Stb K H' H'' ∧ Sim K ρ' G H'' ∧ RU K ρ' H'' u x
  cases q : G[l]? with
  | none => trivial
  | some o =>
    cases o with
    | lst ys =>
      obtain ⟨vs, e, r⟩ := S.list (pre_get p ha) q
      show match some (ys[i]?.map fun x => U.tup [.int (i : Nat), x]) with
        | none => True
        | some none => (Ite K.K a).stop i H'
        | some (some u) => (Ite K.K a).go i H' ∧ ∀ x H'', (Ite K.K a).yld i H' x H'' → Stb K H' H'' ∧ Sim K ρ' G H'' ∧ RU K ρ' H'' u x
      cases q2 : ys[i]? with
      | none => exact ⟨vs, SqL.of e, by rw [← r.len]; exact List.getElem?_eq_none_iff.mp q2⟩
      | some u =>
        obtain ⟨v, e2, rv⟩ := r.getU q2
        refine ⟨⟨vs, v, SqL.of e, e2⟩, fun x H'' y => ?_⟩
        obtain ⟨T, z, rfl, hT, rfl, y⟩ := y
        have := y vs (SqL.of e)
        rw [e2] at this; cases this
        exact pair_yld S (.int _) rv hT
    | _ => trivial
theorem fienum (hm : X.mg "enumerate" = none) (ha : FA X Z W [e] fa) (hg : Gl X "enumerate" := by rfl) (hs : starEach [e] X.env = [(false, eval e X.env)] := by rfl) : FI X Z W (.Tuple elts kk tpos) (.Call (.Name "enumerate" p) [e] [] pos) (iOfs fa kEnum) := by
  refine PIimp (pi_enumA hg hm ha hs) fun σ H Q h => ?_
  refine tG_mono (iSteps h) fun vs H1 ⟨ρ1, G1, us, src, S1, r1, hk, q⟩ => ?_
  unfold kEnum at hk
  split at hk
  · cases hk
    obtain ⟨v, rfl, rv⟩ := r1.one
    cases rv with
    | tup ht hr => exact ⟨_, _, rfl, .inr ⟨ht.sq, q _ (wk_enumT ht hr)⟩⟩
  · cases hk
    obtain ⟨v, rfl, rv⟩ := r1.one
    cases rv with
    | rl ht hr => exact ⟨_, _, rfl, .inl ⟨ht.sq, q _ (wk_enumR ht hr)⟩⟩
  · rename_i l
    obtain ⟨v, rfl, rv⟩ := r1.one
    cases rv with
    | ref ha' =>
      cases q2 : G1[l]? with
      | none => rw [q2] at hk; exact nomatch hk
      | some o =>
        rw [q2] at hk
        cases o with
        | lst xs =>
          cases hk
          obtain ⟨ws, e1, _⟩ := S1.list ha' q2
          exact ⟨_, ws, rfl, .inl ⟨SqL.of e1, q _ (wk_enumL ha')⟩⟩
        | _ => exact nomatch hk
  · exact nomatch hk
/-! reversed(range(a, b)), reversed(range(b)) -/
def kRevR (us : List U) (G : Gp) : Option Src := match us with
  | [.int a, .int b] => if -(2 ^ 62) ≤ a ∧ a < 2 ^ 62 ∧ -(2 ^ 62) ≤ b ∧ b < 2 ^ 62 then some (.live ((b - a).toNat + 1) fun i _ => some (if i < (b - a).toNat then some (.int (a + (((b - a).toNat : Nat) : Int) - 1 + (i : Nat) * (-1))) else none)) else none
  | [.int b] => if -(2 ^ 62) ≤ b ∧ b < 2 ^ 62 then some (.live ((b - 0).toNat + 1) fun i _ => some (if i < (b - 0).toNat then some (.int (0 + (((b - 0).toNat : Nat) : Int) - 1 + (i : Nat) * (-1))) else none)) else none
  | _ => none
theorem wk_rngC {K : KZ} {ρ : List Addr} {H : Hp} {lo c : Int} {n m : Nat} : Wk K ρ H (.live m fun i _ => some (if i < n then some (.int (lo + (i : Nat) * c)) else none)) (Itc lo c n) := by
  intro ρ' H' G i p s S
  show match some (if i < n then some (U.int (lo + (i : Nat) * c)) else none) with
    | none => True
    | some none => (Itc lo c n).stop i H'
    | some (some u) => (Itc lo c n).go i H' ∧ ∀ x H'', (Itc lo c n).yld i H' x H'' → Stb K H' H'' ∧ Sim K ρ' G H'' ∧ RU K ρ' H'' u x
  by_cases hi : i < n
  · rw [if_pos hi]
    refine ⟨hi, fun x H'' y => ?_⟩
    obtain ⟨rfl, rfl⟩ := y
    exact ⟨Stb.refl, S, .int _⟩
  · rw [if_neg hi]; exact Nat.le_of_not_lt hi
theorem firev2 {tg a b : Expr} {f g : Ev → Gp → R U} {p2 pos2 : Pos} (hm : X.mg "reversed" = none) (hm2 : X.mg "range" = none) (ha : FE X Z W a f) (hb : FE X Z W b g) (hg : Gl X "reversed" := by rfl) (hg2 : Gl X "range" := by rfl)
    (na : starEach [a, b] X.env = (false, eval a X.env) :: starEach [b] X.env := by rfl) (nb : starEach [b] X.env = (false, eval b X.env) :: starEach [] X.env := by rfl) (hp : (backTo pos2 (starEach [b] X.env)).any (·.1) = false := by rfl)
    (hs : starEach [.Call (.Name "range" p2) [a, b] [] pos2] X.env = (false, eval (.Call (.Name "range" p2) [a, b] [] pos2) X.env) :: starEach [] X.env := by rfl) : FI X Z W tg (.Call (.Name "reversed" p) [.Call (.Name "range" p2) [a, b] [] pos2] [] pos) (iOfs (aCons f (aCons g aNil)) kRevR) := by
  refine PIimp (pi_revR hg hm (prg_2 hg2 hm2 ha hb na nb hp) hs) fun σ H Q h => ?_
  have h2 := iSteps h
  obtain ⟨ρ, G, env, S, e, h2⟩ := h2
  have h2 : Post (kz X Z) (RUs (kz X Z)) ρ H ((f env G).bind fun x G1 => ((g env G1).bind fun y G2 => R.ok [y] G2).bind fun xs G2 => .ok (x :: xs) G2) (fun vs H1 => ∃ ρ1 G1 us src, Sim (kz X Z) ρ1 G1 H1 ∧ RUs (kz X Z) ρ1 H1 us vs ∧ kRevR us G1 = some src ∧ ∀ J, Wk (kz X Z) ρ1 H1 src J → Q J H1) fun c d H' => W c d σ H' := h2
  have e2 : (fun x G1 => ((g env G1).bind fun y G2 => R.ok [y] G2).bind fun xs G2 => R.ok (x :: xs) G2) = fun x G1 => (g env G1).bind fun y G2 => R.ok [x, y] G2 := by
    funext x G1
    cases g env G1 <;> rfl
  rw [e2] at h2
  refine tG_mono (step (rel := RU (kz X Z)) (rel' := RUs (kz X Z)) S e h2) fun v H1 ⟨ρ1, G1, x, p1, s1, S1, e1, r1, h1⟩ => ?_
  refine tG_mono (step (rel := RU (kz X Z)) (rel' := RUs (kz X Z)) S1 e1 h1) fun w H2 ⟨ρ2, G2, y, p2, s2, S2, e2, r2, h3⟩ => ?_
  obtain ⟨ρ3, G3, us, src, S3, r3, hk, q⟩ := h3 [v, w] ρ2 H2 pre_refl Stb.refl S2 (.cons (r1.mono p2 s2) (.cons r2 .nil))
  unfold kRevR at hk
  split at hk
  · rename_i i j
    split at hk
    · rename_i hb'
      cases hk
      obtain ⟨v', w', ev, rv, rw'⟩ := r3.two
      cases ev
      cases rv
      cases rw'
      exact ⟨i, j, rfl, rfl, hb'.1, hb'.2.1, hb'.2.2.1, hb'.2.2.2, q _ wk_rngC⟩
    · exact nomatch hk
  · obtain ⟨v', ev, _⟩ := r3.one
    cases ev
  · exact nomatch hk
end
end FL

set_option Elab.async false
set_option linter.all false
set_option maxRecDepth 100000
set_option maxHeartbeats 4000000
set_option autoImplicit false
/-! helpers for the printed derivations, the hook, the end -/
namespace FL
open PySem PySem.Spec L2

theorem takesW0 {X : Cx} : Takes X W0 := fun u s' x => by
  obtain ⟨a, B, sI, pins, σ, H, cls, d, e, I, nb, up, sky, na, os, ag, w⟩ := x
  exact w.elim
def badF : List U → Gp → R U := fun _ _ => .bad
theorem fnF_bad {P : Program} {w : World} {K : PySem.W.Frag} {mg : Str → Option Value} {base : Heap} {k : Nat} {f : Addr} {fd : FuncData} {ps : List Str} : FnF P w K mg base k f fd ps badF :=
  ⟨fun vs H Q E h => h.1, fun A outer s H args us vs Q E hr he hb hv hs => by
    obtain ⟨_, Z, ρ, G, us, _, _, _, h⟩ := hs
    exact h.elim⟩
theorem ar_bad {n : Nat} : Ar n badF := fun _ _ _ => rfl

def gAugAdd (x y : U) (G : Gp) : R U := match x, y with
  | .int i, .int j => .ok (.int (i + j)) G
  | _, _ => .bad
def bigN : Nat := 1000000000
theorem isFn_ty {K : PySem.W.Frag} {a : Addr} (h : PySem.W.isFn K (.ref a) = true) : PySem.W.typeIn K (.ref a) = some (.type "function") := eq_of_beq h

/-! ### the facts of a program's errors -/
def anc (t : List (Str × List Str)) (c : Str) : List Str := (t.lookup c).getD []
structure EX (K : PySem.W.Frag) (t : List (Str × List Str)) (ns : List Str) (ks : List (List Str)) (fl : List Str) : Prop where
  exm : ∀ p ∈ t, ∀ x ∈ ns, PySem.W.exmOne K (.ref (He.ga K p.1)) (.ref (He.ga K x)) = some (p.2.contains x)
  kit : ∀ c ∈ t.map (·.1), ∀ xs ∈ ks, PySem.W.kitAny K (.ref (He.ga K c)) (xs.map fun x => .ref (He.ga K x)) = some ((anc t c).any fun a => xs.contains a)
  no : ∀ c ∈ t.map (·.1), ∀ f ∈ fl, PySem.W.findIn K (.ref (He.ga K c)) f = some none
  xi : ∀ c ∈ t.map (·.1), XiK K (He.ga K c)
def exB (t : List (Str × List Str)) (ns : List Str) (ks : List (List Str)) (fl : List Str) (K : PySem.W.Frag) : Bool :=
  (t.all fun p => ns.all fun x => decide (PySem.W.exmOne K (.ref (He.ga K p.1)) (.ref (He.ga K x)) = some (p.2.contains x))) &&
  (((t.map (·.1)).all fun c => ks.all fun xs => decide (PySem.W.kitAny K (.ref (He.ga K c)) (xs.map fun x => .ref (He.ga K x)) = some ((anc t c).any fun a => xs.contains a))) &&
  (((t.map (·.1)).all fun c => fl.all fun f => decide (PySem.W.findIn K (.ref (He.ga K c)) f = some none)) &&
  ((t.map (·.1)).all fun c => xiB K (He.ga K c))))
theorem exB_ok {t : List (Str × List Str)} {ns : List Str} {ks : List (List Str)} {fl : List Str} {K : PySem.W.Frag} (h : exB t ns ks fl K = true) : EX K t ns ks fl := by
  obtain ⟨h1, h⟩ := Bool.and_eq_true_iff.mp h
  obtain ⟨h2, h⟩ := Bool.and_eq_true_iff.mp h
  obtain ⟨h3, h4⟩ := Bool.and_eq_true_iff.mp h
  exact ⟨fun p hp x hx => of_decide_eq_true (List.all_eq_true.mp (List.all_eq_true.mp h1 p hp) x hx),
    fun c hc xs hxs => of_decide_eq_true (List.all_eq_true.mp (List.all_eq_true.mp h2 c hc) xs hxs),
    fun c hc f hf => of_decide_eq_true (List.all_eq_true.mp (List.all_eq_true.mp h3 c hc) f hf),
    fun c hc => xiB_ok (List.all_eq_true.mp h4 c hc)⟩
theorem EX.hx {K : PySem.W.Frag} {t : List (Str × List Str)} {ns : List Str} {ks : List (List Str)} {fl : List Str} (e : EX K t ns ks fl) {x : Str} (hx : x ∈ ns) : ∀ c as, (c, as) ∈ t → PySem.W.exmOne K (.ref (He.ga K c)) (.ref (He.ga K x)) = some (as.contains x) := fun c as h => e.exm (c, as) h x hx
theorem paired_own {K : PySem.W.Frag} : ∀ xs : List Str, Paired ClsV (xs.map fun x => V.ref (He.ga K x)) (xs.map fun x => Value.ref (He.ga K x))
  | [] => .nil
  | _ :: r => .cons (.own _) (paired_own r)
def kitT (t : List (Str × List Str)) (c : Str) (xs : List Str) : Bool := (anc t c).any fun a => xs.contains a
theorem EX.kit1 {K : PySem.W.Frag} {t : List (Str × List Str)} {ns : List Str} {ks : List (List Str)} {fl : List Str} (e : EX K t ns ks fl) {c : Str} (hc : c ∈ t.map (·.1)) {x : Str} (hx : [x] ∈ ks) : PySem.W.kitOne K (.ref (He.ga K c)) (.ref (He.ga K x)) = some (kitT t c [x]) := by
  have h := e.kit c hc [x] hx
  have h : (match PySem.W.kitOne K (.ref (He.ga K c)) (.ref (He.ga K x)) with
    | some true => some true
    | some false => some false
    | none => none) = some (kitT t c [x]) := h
  cases q : PySem.W.kitOne K (.ref (He.ga K c)) (.ref (He.ga K x)) with
  | none => rw [q] at h; exact nomatch h
  | some b => rw [q] at h; cases b <;> exact h

/-! ### the hook: facts, defs, one more Bool -/
abbrev AlL : Type := He.AlD × Bool
def obsL (fa : List He.Fa) (fn : List He.DefD) (ex : PySem.W.Frag → Bool) (K : PySem.W.Frag) : AlL := (He.obsD fa fn K, ex K)
def SaysL (fa : List He.Fa) (fn : List He.DefD) (ex : PySem.W.Frag → Bool) (K : PySem.W.Frag) : Prop := He.SaysD fa fn K ∧ ex K = true
def obsLG (n : Nat) (fa : List He.Fa) (fn : List He.DefD) (ex : PySem.W.Frag → Bool) (g : Addr → Option Obj) : AlL := obsL fa fn ex (He.frG g (He.asD g n))
def hookL (n : Nat) (fa : List He.Fa) (fn : List He.DefD) (ex : PySem.W.Frag → Bool) : PySem.W.Hook where
  α := AlL
  obs := fun s => obsLG n fa fn ex s.heap.get?
  val := fun _ => (He.valD fn, true)
  says := fun _ h => ∃ K : PySem.W.Frag, K.In h ∧ SaysL fa fn ex K
  of := fun _ _ e => ⟨_, He.frG_in, congrArg (fun z : AlL => z.1) e, congrArg (fun z : AlL => z.2) e⟩
  keeps := fun _ _ _ ⟨K, hK, c⟩ k => ⟨K, PySem.W.Frag.In.keeps hK k, c⟩
theorem obsLG_eq {n : Nat} {fa : List He.Fa} {fn : List He.DefD} {ex : PySem.W.Frag → Bool} {g : Addr → Option Obj} {s : Shared} (h : ∀ a, g a = s.heap.get? a) : obsLG n fa fn ex g = (hookL n fa fn ex).obs s := by
  have e : g = s.heap.get? := funext h
  rw [e] <;> rfl

/-! ### the end -/
open PyProof.Rows in
theorem walk_ofEB {l : PySem.W.OpenLaw} {n k : Nat} {q : Program} {loose : List Str} {XP : (Str → Option Value) → Heap → Prop} {YP : World → Heap → Prop} {d : DefRec} {CX : World → CXT} {x : Str}
    (hn : l.most = some n) (hn2 : n ≤ sizeLine) (hdf : d.params.defaults = []) (hr : Room k callerA)
    (F : ∀ (w : World) (mg : Str → Option Value) (fa : Addr) (h : Heap), YP w h → h.Ns mainGlobals mg → mg d.name = some (.ref fa) →
      ∃ (K : PySem.W.Frag) (fd : FuncData) (sp : Sp), K.In h ∧ (∀ (s : Shared) (u : Value), BindsTo s fd ⟨[u], []⟩ [(x, u)]) ∧
        (∀ (H : Hp) (a : Addr) (ns : List Int), ns.length ≤ n → (∀ z ∈ ns, Builtin.Int.intBits z ≤ 1048576) → Only H → SqL K H a (ns.map V.int) → sp [.ref a] H (fun v _ => v = .bl true) fun _ _ _ => False) ∧
        ∀ base : Heap, K.In base → base.Ns mainGlobals mg → FnOk l.prog w K mg base (CX w) k fa fd [x] sp)
    (hCX : ∀ (w : World) (H : Hp) (s : Shared) (e : Value) (s' : Shared), CX w [] H s (fun _ _ _ => False) e s' → False) :
    PySem.W.WalkO q loose XP YP l.row.toRowW d [] (fun f vs => PySem.call f vs) := by
  refine Att.attach_callB hn hdf fun w s₀ s₁ mg mb fa o pm cd doc a vs ns G Y ho hd hcd hmg hobj hints hlen hbits hg => ?_
  obtain ⟨K, fd, sp, KX, hb, hsp, hF⟩ := F w mg fa _ Y G.T.g hmg
  exact law_call KX G.T.g G.T.b G.T.builtins G.T.nolimit hg hobj hints (Nat.le_trans hlen hn2) hr hF hb (fun H hO hS => hsp H a ns hlen hbits hO hS) fun H e s' => hCX w H s₁ e s'
theorem cx_false (P : Program) (w : World) (H : Hp) (s : Shared) (e : Value) (s' : Shared) (h : L2.CX P w [] H s (fun _ _ _ => False) e s') : False := by
  obtain ⟨a, B, H', cls, d, _, _, _, _, _, _, _, h⟩ := h
  exact h
theorem law_sp {K : PySem.W.Frag} {F : List U → Gp → R U} {ns : List Int} {H : Hp} {a : Addr} {E : XK} (h : ∃ G', F [.rl (ns.map U.int)] [] = .ok (.bl true) G') (hO : Only H) (hS : SqL K H a (ns.map V.int)) : spF K 1 F [.ref a] H (fun v _ => v = .bl true) E := by
  obtain ⟨G', h⟩ := h
  refine ⟨rfl, zT, [], [], [.rl (ns.map U.int)], rfl, ⟨rfl, List.nodup_nil, fun l o a h => by simp at h, trivial⟩, .cons (.rl ?_ (RUs.ints ns)) .nil, ?_⟩
  · rcases hS with (h | ⟨o, h⟩) | h
    · rcases hO a with e | ⟨o, xs, e⟩
      · rw [h] at e; cases e
      · rw [h] at e; cases e
    · exact .inl ⟨o, h⟩
    · exact .inr h
  · rw [h]
    intro b ρ' H' p s S r
    cases r
    rfl
end FL

set_option Elab.async false
set_option linter.all false
set_option maxRecDepth 100000
set_option maxHeartbeats 4000000
set_option autoImplicit false
/-! plain tools: what the combinators give -/
namespace FL
open PySem PySem.Spec L2
section
variable {α β : Type} {env env' : Ev} {G G' G1 : Gp}
@[simp] theorem r_bind_ok (a : α) (G : Gp) (k : α → Gp → R β) : (R.ok a G).bind k = k a G := id rfl
@[simp] theorem r_bind_exc (c : Str) (fs : List (Str × U)) (G : Gp) (k : α → Gp → R β) : (R.exc c fs G : R α).bind k = .exc c fs G := id rfl
@[simp] theorem r_bindN_ok (a : α) (G : Gp) (k : α → Gp → R β) : (R.ok a G).bindN k = k a G := id rfl
@[simp] theorem r_then_ok (a : α) (G : Gp) (e : Ev) (k : α → Gp → SR) : (R.ok a G).andThen e k = k a G := id rfl
@[simp] theorem r_then_exc (c : Str) (fs : List (Str × U)) (G : Gp) (e : Ev) (k : α → Gp → SR) : (R.exc c fs G : R α).andThen e k = .exc c fs e G := id rfl
@[simp] theorem eC_ (u : U) : eC u env G = .ok u G := id rfl
@[simp] theorem eVar_ (i : Nat) : eVar i env G = match env[i]? with
  | some (some u) => .ok u G
  | _ => .bad := id rfl
@[simp] theorem eBin_ (g : U → U → Gp → R U) (fa fb : Ev → Gp → R U) : eBin g fa fb env G = (fa env G).bind fun x G1 => (fb env G1).bind fun y G2 => g x y G2 := id rfl
@[simp] theorem eUn_ (g : U → Gp → R U) (fa : Ev → Gp → R U) : eUn g fa env G = (fa env G).bind g := id rfl
@[simp] theorem asB_ok (b : Bool) : asB (.ok (.bl b) G) = .ok b G := id rfl
@[simp] theorem bVal_ (f : Ev → Gp → R U) : bVal f env G = asB (f env G) := id rfl
@[simp] theorem tAndB_ (f g : Ev → Gp → R Bool) : tAndB f g env G = (f env G).bind fun c G1 => if c = true then g env G1 else .ok false G1 := id rfl
@[simp] theorem tOrB_ (f g : Ev → Gp → R Bool) : tOrB f g env G = (f env G).bind fun c G1 => if c = true then .ok true G1 else g env G1 := id rfl
@[simp] theorem tNotB_ (f : Ev → Gp → R Bool) : tNotB f env G = (f env G).bind fun c G1 => .ok (!c) G1 := id rfl
@[simp] theorem eAnd_ (f g : Ev → Gp → R U) : eAnd f g env G = (asB (f env G)).bind fun c G1 => if c = true then g env G1 else .ok (.bl false) G1 := id rfl
@[simp] theorem eOr_ (f g : Ev → Gp → R U) : eOr f g env G = (asB (f env G)).bind fun c G1 => if c = true then .ok (.bl true) G1 else g env G1 := id rfl
@[simp] theorem eNot_ (f : Ev → Gp → R U) : eNot f env G = (asB (f env G)).bind fun c G1 => .ok (.bl (!c)) G1 := id rfl
@[simp] theorem eIf_ (c : Ev → Gp → R Bool) (f g : Ev → Gp → R U) : eIf c f g env G = (c env G).bind fun b G1 => if b = true then f env G1 else g env G1 := id rfl
@[simp] theorem aNil_ : aNil env G = .ok [] G := id rfl
@[simp] theorem aCons_ (f : Ev → Gp → R U) (g : Ev → Gp → R (List U)) : aCons f g env G = (f env G).bind fun x G1 => (g env G1).bind fun xs G2 => .ok (x :: xs) G2 := id rfl
@[simp] theorem eTup_ (g : Ev → Gp → R (List U)) : eTup g env G = (g env G).bind fun xs G1 => if xs.length ≤ 16777216 then .ok (.tup xs) G1 else .bad := id rfl
@[simp] theorem eLst_ (g : Ev → Gp → R (List U)) : eLst g env G = (g env G).bind fun xs G1 => if xs.length ≤ 16777216 then .ok (.ref G1.length) (G1 ++ [.lst xs]) else .bad := id rfl
@[simp] theorem sNil_ : sNil env G = .nx env G := id rfl
@[simp] theorem sSeq_ (g1 g2 : Ev → Gp → SR) : sSeq g1 g2 env G = match g1 env G with
  | .nx env' G' => g2 env' G'
  | r => r := id rfl
theorem seq_nx {g1 g2 : Ev → Gp → SR} {e' : Ev} {G' : Gp} (h : g1 env G = .nx e' G') : sSeq g1 g2 env G = g2 e' G' := by rw [sSeq_, h]
@[simp] theorem sExpr_ (f : Ev → Gp → R U) : sExpr f env G = (f env G).andThen env fun _ G1 => .nx env G1 := id rfl
@[simp] theorem sRet_ (f : Ev → Gp → R U) : sRet f env G = (f env G).andThen env fun u G1 => .ret u G1 := id rfl
@[simp] theorem sRetN_ : sRetN env G = .ret .non G := id rfl
@[simp] theorem sBrk_ : sBrk env G = .brk env G := id rfl
@[simp] theorem sCt_ : sCt env G = .ct env G := id rfl
@[simp] theorem sIf_ (c : Ev → Gp → R Bool) (g1 g2 : Ev → Gp → SR) : sIf c g1 g2 env G = (c env G).andThen env fun b G1 => if b = true then g1 env G1 else g2 env G1 := id rfl
@[simp] theorem sAsg_ (f : Ev → Gp → R U) (gf : U → Ev → Gp → R Ev) : sAsg f gf env G = (f env G).andThen env fun u G1 => (gf u env G1).andThen env fun env' G2 => .nx env' G2 := id rfl
@[simp] theorem gNm_ (i : Nat) (u : U) : gNm i u env G = .ok (env.set i (some u)) G := id rfl
@[simp] theorem gNil_ : gNil [] env G = .ok env G := id rfl
@[simp] theorem gCons_ (g : U → Ev → Gp → R Ev) (gs : List U → Ev → Gp → R Ev) (u : U) (r : List U) : gCons g gs (u :: r) env G = (g u env G).bind fun env' G' => gs r env' G' := id rfl
@[simp] theorem gTup_ (gs : List U → Ev → Gp → R Ev) (n : Nat) (xs : List U) : gTup gs n (.tup xs) env G = if xs.length = n then gs xs env G else .bad := id rfl
@[simp] theorem sAug_ (i : Nat) (g : U → U → Gp → R U) (f : Ev → Gp → R U) : sAug i g f env G = (eVar i env G).andThen env fun x G0 => (f env G0).andThen env fun y G1 => (g x y G1).andThen env fun z G2 => .nx (env.set i (some z)) G2 := id rfl
@[simp] theorem eCall_ (g : List U → Gp → R U) (fa : Ev → Gp → R (List U)) : eCall g fa env G = (fa env G).bind g := id rfl
@[simp] theorem eCallK_ (F : List U → Gp → R U) (a b : Nat) (idx : List Nat) (fa fk : Ev → Gp → R (List U)) : eCallK F a b idx fa fk env G = (fa env G).bind fun us G1 => (fk env G1).bind fun ws G2 => F (gK a b idx us ws) G2 := id rfl
@[simp] theorem eSl_ (f : Ev → Gp → R U) (lo hi : Ev → Gp → R (Option Int)) : eSl f lo hi env G = (f env G).bind fun x G1 => (lo env G1).bind fun l G2 => (hi env G2).bind fun h G3 => gSl x l h G3 := id rfl
@[simp] theorem pNo_ : pNo env G = .ok none G := id rfl
@[simp] theorem pInt_ (f : Ev → Gp → R U) : pInt f env G = (f env G).bind fun u G1 => match u with
  | .int i => .ok (some i) G1
  | _ => .bad := id rfl
@[simp] theorem gSubE_ (fo fi : Ev → Gp → R U) (v : U) : gSubE fo fi v env G = (fo env G).bindN fun o G1 => (fi env G1).bindN fun i G2 => (setU o i v G2).bindN fun _ G3 => .ok env G3 := id rfl
/-- isinstance of a value -/
def isRes (tbl : List (String × Bool)) (u : U) (G : Gp) : R U := match tyN G u with
  | some n => match tbl.lookup n with
    | some b => .ok (.bl b) G
    | none => .bad
  | none => .bad
theorem isRes_of {tbl : List (String × Bool)} {u : U} {n : String} {b : Bool} (h1 : tyN G u = some n) (h2 : tbl.lookup n = some b) : isRes tbl u G = .ok (.bl b) G := by
  unfold isRes
  rw [h1]
  simp only [h2]
@[simp] theorem eIs_ (tbl : List (String × Bool)) (f : Ev → Gp → R U) : eIs tbl f env G = (f env G).bind fun u G1 => isRes tbl u G1 := id rfl
@[simp] theorem eChain_ (g g' : U → U → Gp → R U) (fa fb fc : Ev → Gp → R U) : eChain g g' fa fb fc env G = (fa env G).bind fun x G1 => (fb env G1).bind fun y G2 => (asB (g x y G2)).bind fun k G3 => if k = true then (fc env G3).bind fun z G4 => g' y z G4 else .ok (.bl false) G3 := id rfl
/-! operators on ints -/
@[simp] theorem gAdd_ii (i j : Int) : gAdd (.int i) (.int j) G = .ok (.int (i + j)) G := id rfl
@[simp] theorem gAug_ii (i j : Int) : gAugAdd (.int i) (.int j) G = .ok (.int (i + j)) G := id rfl
@[simp] theorem gSub_ii (i j : Int) : gSub (.int i) (.int j) G = .ok (.int (i - j)) G := id rfl
@[simp] theorem gNeg_i (i : Int) : gNeg (.int i) G = .ok (.int (-i)) G := id rfl
theorem gMul_ii {i j : Int} (h : mulOk i j = true) : gMul (.int i) (.int j) G = .ok (.int (i * j)) G := if_pos h
theorem gFdiv_ii {i j : Int} (h1 : 0 < j) (h2 : j.natAbs < 2 ^ 64) : gFdiv (.int i) (.int j) G = .ok (.int (i / j)) G := if_pos ⟨h1, Nat.lt_of_lt_of_le h2 (Nat.pow_le_pow_right (by decide) (by decide))⟩
theorem gMod_ii {i j : Int} (h1 : 0 < j) : gMod (.int i) (.int j) G = .ok (.int (i % j)) G := if_pos h1
@[simp] theorem gCmp_ii (p : Int → Int → Bool) (i j : Int) : gCmpI p (.int i) (.int j) G = .ok (.bl (p i j)) G := id rfl
@[simp] theorem eqU_ii (i j : Int) : eqU G (.int i) (.int j) = some (decide (i = j)) := id rfl
@[simp] theorem eqU_ss (i j : Str) : eqU G (.str i) (.str j) = some (decide (i = j)) := id rfl
@[simp] theorem eqU_bb (i j : Bool) : eqU G (.bl i) (.bl j) = some (decide (i = j)) := id rfl
@[simp] theorem gEq_ (x y : U) : gEq x y G = match eqU G x y with
  | some b => .ok (.bl b) G
  | none => .bad := id rfl
@[simp] theorem gNe_ (x y : U) : gNe x y G = match eqU G x y with
  | some b => .ok (.bl (!b)) G
  | none => .bad := id rfl
@[simp] theorem gIsN_ (x : U) : gIsN x .non G = .ok (.bl (match x with
    | .non => true
    | _ => false)) G := id rfl
@[simp] theorem gNotN_ (x : U) : gNotN x .non G = .ok (.bl (match x with
    | .non => false
    | _ => true)) G := id rfl
@[simp] theorem bInt_i (i : Int) : bInt [.int i] G = .ok (.int i) G := id rfl
@[simp] theorem bMax2_ii (i j : Int) : bMax2 [.int i, .int j] G = .ok (.int (max i j)) G := by
  show R.ok (U.int (if j > i then j else i)) G = _
  congr 2; split <;> omega
@[simp] theorem bMin2_ii (i j : Int) : bMin2 [.int i, .int j] G = .ok (.int (min i j)) G := by
  show R.ok (U.int (if j < i then j else i)) G = _
  congr 2; split <;> omega
theorem mulOk_small {i j : Int} (h : i.natAbs < 2 ^ 64) : mulOk i j = true := by
  unfold mulOk; simp [h]
theorem mulOk_small2 {i j : Int} (h : j.natAbs < 2 ^ 64) : mulOk i j = true := by
  unfold mulOk; simp [h]
theorem mulOk_bits {i j : Int} (h : Builtin.Int.intBits i ≤ 1048576) (h2 : Builtin.Int.intBits j ≤ 1048576) : mulOk i j = true := by
  unfold mulOk
  have : Builtin.Int.intBits i + Builtin.Int.intBits j ≤ 134217728 := by omega
  simp [this]
/-! sequences -/
@[simp] theorem seqU_tup (xs : List U) : seqU G (.tup xs) = some xs := id rfl
@[simp] theorem seqU_rl (xs : List U) : seqU G (.rl xs) = some xs := id rfl
@[simp] theorem seqU_wt (xs : List U) : seqU G (.wt xs) = some xs := id rfl
@[simp] theorem seqU_ref (l : Nat) : seqU G (.ref l) = match G[l]? with
  | some (.lst xs) => some xs
  | _ => none := id rfl
theorem bLen_seq {u : U} {xs : List U} (h : seqU G u = some xs) : bLen [u] G = .ok (.int xs.length) G := by
  cases u with
  | str z => exact nomatch h
  | _ => simp only [bLen, h]
@[simp] theorem bLen_tup (xs : List U) : bLen [.tup xs] G = .ok (.int xs.length) G := id rfl
@[simp] theorem bLen_rl (xs : List U) : bLen [.rl xs] G = .ok (.int xs.length) G := id rfl
@[simp] theorem bLen_wt (xs : List U) : bLen [.wt xs] G = .ok (.int xs.length) G := id rfl
theorem bTuple_seq {u : U} {xs : List U} (h : seqU G u = some xs) (hw : ∀ ys, u ≠ .wt ys := by intro _ h; cases h) : bTuple [u] G = .ok (.tup xs) G := by
  cases u with
  | wt ys => exact absurd rfl (hw ys)
  | _ => simp only [bTuple, h]
theorem bList_seq {u : U} {xs : List U} (h : seqU G u = some xs) : bList [u] G = .ok (.ref G.length) (G ++ [.lst xs]) := by simp only [bList, h]
theorem gIdx_seq {u : U} {xs : List U} {i : Int} {y : U} (h : seqU G u = some xs) (hi : atI xs i = some y) : gIdx u (.int i) G = .ok y G := by
  cases u with
  | str z => exact nomatch h
  | _ => simp only [gIdx, h, hi]
theorem gIdx_ref {l : Nat} {xs : List U} {i : Int} {y : U} (h : G[l]? = some (.lst xs)) (hi : atI xs i = some y) : gIdx (.ref l) (.int i) G = .ok y G := gIdx_seq (by simp only [seqU, h]) hi
theorem gIdx_tup {xs : List U} {i : Int} {y : U} (hi : atI xs i = some y) : gIdx (.tup xs) (.int i) G = .ok y G := gIdx_seq rfl hi
theorem atI_nat {α : Type} {xs : List α} {i : Nat} (h : i < xs.length) : atI xs (i : Int) = xs[i]? := by
  unfold atI ixN
  rw [if_pos (by omega), if_pos (by omega)]
  rfl
theorem atI_pos {α : Type} {xs : List α} {i : Int} {y : α} (h0 : 0 ≤ i) (h : xs[i.toNat]? = some y) : atI xs i = some y := by
  have hl := (List.getElem?_eq_some_iff.mp h).1
  unfold atI ixN
  rw [if_pos h0, if_pos (by omega)]
  exact h
theorem atI_last {α : Type} {xs : List α} {y : α} (h : xs.getLast? = some y) : atI xs (-1) = some y := by
  have hn : xs ≠ [] := fun e => by rw [e] at h; simp at h
  have hl : 0 < xs.length := List.length_pos_iff.mpr hn
  unfold atI ixN
  rw [if_neg (by omega), if_pos (by omega)]
  rw [List.getLast?_eq_getElem?] at h
  show xs[((-1 : Int) + (xs.length : Int)).toNat]? = some y
  rw [show ((-1 : Int) + (xs.length : Int)).toNat = xs.length - 1 by omega]
  exact h
theorem mAppend_ref {l : Nat} {xs : List U} {y : U} (h : G[l]? = some (.lst xs)) (hl : xs.length < 16777216) : mAppend (.ref l) [y] G = .ok .non (G.set l (.lst (xs ++ [y]))) := by
  simp only [mAppend, h, if_pos hl]
theorem isLst_ref {l : Nat} {xs : List U} (h : G[l]? = some (.lst xs)) : isLst (.ref l) G = true := by simp only [isLst, h]
theorem eMeth_ (g : U → List U → Gp → R U) (fo : Ev → Gp → R U) (fa : Ev → Gp → R (List U)) : eMeth g fo fa env G = (fo env G).bind fun o G1 => if isLst o G1 = true then (fa env G1).bind fun us G2 => g o us G2 else .bad := rfl
theorem setU_ref {l : Nat} {xs : List U} {i : Int} {v : U} (h : G[l]? = some (.lst xs)) (h0 : 0 ≤ i) (h1 : i < xs.length) : setU (.ref l) (.int i) v G = .ok () (G.set l (.lst (xs.set i.toNat v))) := by
  have e : ixN xs.length i = some i.toNat := by unfold ixN; rw [if_pos h0, if_pos h1]
  simp only [setU, h, e]
end
theorem iOfs_ok {f : Ev → Gp → R (List U)} {k : List U → Gp → Option Src} {us : List U} {G G1 : Gp} {env : Ev} {src : Src} (hf : f env G = .ok us G1) (e : k us G1 = some src) : iOfs f k env G = .ok src G1 := by
  unfold iOfs
  rw [hf, r_bind_ok, e]
theorem iOf_ok {f : Ev → Gp → R U} {k : U → Gp → Option Src} {u : U} {G G1 : Gp} {env : Ev} {src : Src} (hf : f env G = .ok u G1) (e : k u G1 = some src) : iOf f k env G = .ok src G1 := by
  unfold iOf
  rw [hf, r_bind_ok, e]
/-! a def's end -/
def fin (r : SR) : R U := match r with
  | .nx _ G' => .ok .non G'
  | .ret u G' => .ok u G'
  | .exc c fs _ G' => .exc c fs G'
  | _ => .bad
@[simp] theorem fin_nx (e : Ev) (G : Gp) : fin (.nx e G) = .ok .non G := id rfl
@[simp] theorem fin_ret (u : U) (G : Gp) : fin (.ret u G) = .ok u G := id rfl
@[simp] theorem fin_exc (c : Str) (fs : List (Str × U)) (e : Ev) (G : Gp) : fin (.exc c fs e G) = .exc c fs G := id rfl
theorem defF_eq {n m : Nat} {g : Ev → Gp → SR} {us : List U} (h : us.length = n) (G : Gp) {e : Ev} (he : startE m us = e) : defF n m g us G = fin (g e G) := by
  subst he
  unfold defF
  rw [if_pos h]
  cases g (startE m us) G <;> rfl
/-! ### loops -/
/-- what holds behind one turn -/
def after (r : SR) (N : Ev → Gp → Prop) (P : SR → Prop) : Prop := match r with
  | .nx e G => N e G
  | .ct e G => N e G
  | .brk e G => P (.nx e G)
  | r => P r
theorem forN_post {nth : Nat → Gp → Option (Option U)} {gf : U → Ev → Gp → R Ev} {body : Ev → Gp → SR} {xs : List U} (I : Nat → Ev → Gp → Prop) (P : SR → Prop)
    (hs : ∀ i env G, i ≤ xs.length → I i env G → nth i G = some xs[i]?) (step : ∀ (i : Nat) (hi : i < xs.length) (env : Ev) (G : Gp), I i env G → after ((gf xs[i] env G).andThen env fun env1 G1 => body env1 G1) (I (i + 1)) P)
    (fin : ∀ env G, I xs.length env G → P (.nx env G)) : ∀ (n i : Nat) (env : Ev) (G : Gp), xs.length < n + i → i ≤ xs.length → I i env G → P (forN nth gf body n i env G) := by
  intro n
  induction n with
  | zero => intro i env G h1 h2 _; omega
  | succ n ih =>
    intro i env G h1 h2 hI
    unfold forN
    rw [hs i env G h2 hI]
    by_cases hi : i < xs.length
    · rw [List.getElem?_eq_getElem hi]
      have st := step i hi env G hI
      simp only
      cases q : gf xs[i] env G with
      | ok e1 G1 =>
        rw [q] at st
        simp only [r_then_ok] at st ⊢
        cases qb : body e1 G1 with
        | nx e2 G2 => rw [qb] at st; exact ih (i + 1) e2 G2 (by omega) hi st
        | ct e2 G2 => rw [qb] at st; exact ih (i + 1) e2 G2 (by omega) hi st
        | brk e2 G2 => rw [qb] at st; exact st
        | ret u G2 => rw [qb] at st; exact st
        | exc c fs e2 G2 => rw [qb] at st; exact st
        | bad => rw [qb] at st; exact st
      | exc c fs G1 => rw [q] at st; exact st
      | bad => rw [q] at st; exact st
    · have e : i = xs.length := by omega
      subst e
      rw [List.getElem?_eq_none (Nat.le_refl _)]
      exact fin env G hI
/-- a source gives these items, as long as I holds -/
def Gives (src : Src) (xs : List U) (I : Nat → Ev → Gp → Prop) : Prop := xs.length < src.fuel ∧ ∀ i env G, i ≤ xs.length → I i env G → src.at_ i G = some xs[i]?
theorem gives_items {xs : List U} {I : Nat → Ev → Gp → Prop} : Gives (.items xs) xs I := ⟨Nat.lt_succ_self _, fun _ _ _ _ _ => rfl⟩
theorem sFor_post {fi : Ev → Gp → R Src} {gf : U → Ev → Gp → R Ev} {body : Ev → Gp → SR} {env : Ev} {G G1 : Gp} {src : Src} {xs : List U} (I : Nat → Ev → Gp → Prop) (P : SR → Prop) (hf : fi env G = .ok src G1) (hs : Gives src xs I) (h0 : I 0 env G1)
    (step : ∀ (i : Nat) (hi : i < xs.length) (env : Ev) (G : Gp), I i env G → after ((gf xs[i] env G).andThen env fun env1 G1 => body env1 G1) (I (i + 1)) P)
    (fin : ∀ env G, I xs.length env G → P (.nx env G)) : P (sFor fi gf body env G) := by
  unfold sFor
  rw [hf]
  simp only [r_then_ok]
  rw [sFor_run]
  exact forN_post (nth := src.nth) I P (fun i env G h1 h2 => hs.2 i env G h1 h2) step fin src.fuel 0 env G1 (by have := hs.1; omega) (Nat.zero_le _) h0
def rng (lo : Int) (n : Nat) : List U := (List.range n).map fun i => .int (lo + (i : Nat))
@[simp] theorem rng_len (lo : Int) (n : Nat) : (rng lo n).length = n := by simp [rng]
theorem rng_get {lo : Int} {n i : Nat} (h : i < (rng lo n).length) : (rng lo n)[i] = .int (lo + (i : Nat)) := by simp [rng]
theorem rng_get? (lo : Int) (n i : Nat) : (rng lo n)[i]? = if i < n then some (.int (lo + (i : Nat))) else none := by
  by_cases h : i < n
  · rw [if_pos h, List.getElem?_eq_getElem (by simpa using h), rng_get]
  · rw [if_neg h]; exact List.getElem?_eq_none (by simpa using h)
theorem p62 : (2 : Int) ^ 62 = 4611686018427387904 := by decide
theorem gives_rng1 {I : Nat → Ev → Gp → Prop} {j : Int} (h1 : -4611686018427387904 ≤ j) (h2 : j < 4611686018427387904) {G : Gp} : ∃ src, kRng1 [.int j] G = some src ∧ Gives src (rng 0 j.toNat) I :=
  ⟨.live (j.toNat + 1) fun i _ => some (if i < j.toNat then some (.int (0 + (i : Nat))) else none), if_pos ⟨by rw [p62]; exact h1, by rw [p62]; exact h2⟩, by simp [Src.fuel], fun i env G _ _ => congrArg some (rng_get? 0 j.toNat i).symm⟩
theorem gives_rng2 {I : Nat → Ev → Gp → Prop} {a j : Int} (h1 : -4611686018427387904 ≤ a) (h2 : a < 4611686018427387904) (h3 : -4611686018427387904 ≤ j) (h4 : j < 4611686018427387904) {G : Gp} : ∃ src, kRng2 [.int a, .int j] G = some src ∧ Gives src (rng a (j - a).toNat) I :=
  ⟨.live ((j - a).toNat + 1) fun i _ => some (if i < (j - a).toNat then some (.int (a + (i : Nat))) else none), if_pos ⟨by rw [p62]; exact h1, by rw [p62]; exact h2, by rw [p62]; exact h3, by rw [p62]; exact h4⟩, by simp [Src.fuel], fun i env G _ _ => congrArg some (rng_get? a (j - a).toNat i).symm⟩
theorem gives_ref {I : Nat → Ev → Gp → Prop} {l : Nat} {xs : List U} {G : Gp} (h : G[l]? = some (.lst xs)) (hI : ∀ i env G, I i env G → G[l]? = some (.lst xs)) : ∃ src, kSeq (.ref l) G = some src ∧ Gives src xs I := by
  refine ⟨.live (xs.length + 1) fun i G => match G[l]? with
    | some (.lst ys) => some ys[i]?
    | _ => none, by unfold kSeq; (simp only [h] <;> rfl), by simp [Src.fuel], fun i env G hi h2 => ?_⟩
  show (match G[l]? with
    | some (.lst ys) => some ys[i]?
    | _ => none) = _
  rw [hI i env G h2]
/-! for over written items, as a fold -/
theorem sFor_rng1 {fa : Ev → Gp → R (List U)} {gf : U → Ev → Gp → R Ev} {body : Ev → Gp → SR} {env : Ev} {G G1 : Gp} {j : Int} (I : Nat → Ev → Gp → Prop) (P : SR → Prop) (hf : fa env G = .ok [.int j] G1) (h1 : -4611686018427387904 ≤ j) (h2 : j < 4611686018427387904) (h0 : I 0 env G1)
    (step : ∀ (i : Nat) (hi : i < j.toNat) (env : Ev) (G : Gp), I i env G → after ((gf (.int (i : Nat)) env G).andThen env fun env1 G1 => body env1 G1) (I (i + 1)) P)
    (fin : ∀ env G, I j.toNat env G → P (.nx env G)) : P (sFor (iOfs fa kRng1) gf body env G) := by
  obtain ⟨src, e, g⟩ := gives_rng1 (I := I) h1 h2 (G := G1)
  refine sFor_post (src := src) (G1 := G1) I P (iOfs_ok hf e) g h0 (fun i hi env G hI => ?_) (fun env G hI => fin env G (by simpa using hI))
  rw [rng_get]
  have := step i (by simpa using hi) env G hI
  rw [show (0 : Int) + ((i : Nat) : Int) = ((i : Nat) : Int) by omega]
  exact this
theorem sFor_rng2 {fa : Ev → Gp → R (List U)} {gf : U → Ev → Gp → R Ev} {body : Ev → Gp → SR} {env : Ev} {G G1 : Gp} {a j : Int} (I : Nat → Ev → Gp → Prop) (P : SR → Prop) (hf : fa env G = .ok [.int a, .int j] G1) (h1 : -4611686018427387904 ≤ a) (h2 : a < 4611686018427387904) (h3 : -4611686018427387904 ≤ j) (h4 : j < 4611686018427387904) (h0 : I 0 env G1)
    (step : ∀ (i : Nat) (hi : i < (j - a).toNat) (env : Ev) (G : Gp), I i env G → after ((gf (.int (a + (i : Nat))) env G).andThen env fun env1 G1 => body env1 G1) (I (i + 1)) P)
    (fin : ∀ env G, I (j - a).toNat env G → P (.nx env G)) : P (sFor (iOfs fa kRng2) gf body env G) := by
  obtain ⟨src, e, g⟩ := gives_rng2 (I := I) h1 h2 h3 h4 (G := G1)
  refine sFor_post (src := src) (G1 := G1) I P (iOfs_ok hf e) g h0 (fun i hi env G hI => ?_) (fun env G hI => fin env G (by simpa using hI))
  rw [rng_get]
  exact step i (by simpa using hi) env G hI
theorem sFor_tup {f : Ev → Gp → R U} {gf : U → Ev → Gp → R Ev} {body : Ev → Gp → SR} {env : Ev} {G G1 : Gp} {xs : List U} (I : Nat → Ev → Gp → Prop) (P : SR → Prop) (hf : f env G = .ok (.tup xs) G1) (h0 : I 0 env G1)
    (step : ∀ (i : Nat) (hi : i < xs.length) (env : Ev) (G : Gp), I i env G → after ((gf xs[i] env G).andThen env fun env1 G1 => body env1 G1) (I (i + 1)) P)
    (fin : ∀ env G, I xs.length env G → P (.nx env G)) : P (sFor (iOf f kSeq) gf body env G) :=
  sFor_post (src := .items xs) (G1 := G1) I P (by simp [iOf, hf, kSeq]) gives_items h0 step fin
theorem sFor_ref {f : Ev → Gp → R U} {gf : U → Ev → Gp → R Ev} {body : Ev → Gp → SR} {env : Ev} {G G1 : Gp} {l : Nat} {xs : List U} (I : Nat → Ev → Gp → Prop) (P : SR → Prop) (hf : f env G = .ok (.ref l) G1) (hl : G1[l]? = some (.lst xs)) (hI : ∀ i env G, I i env G → G[l]? = some (.lst xs)) (h0 : I 0 env G1)
    (step : ∀ (i : Nat) (hi : i < xs.length) (env : Ev) (G : Gp), I i env G → after ((gf xs[i] env G).andThen env fun env1 G1 => body env1 G1) (I (i + 1)) P)
    (fin : ∀ env G, I xs.length env G → P (.nx env G)) : P (sFor (iOf f kSeq) gf body env G) := by
  obtain ⟨src, e, g⟩ := gives_ref (I := I) hl hI
  exact sFor_post (src := src) (G1 := G1) I P (iOf_ok hf e) g h0 step fin
/-! while: a measure -/
theorem while_post {fc : Ev → Gp → R Bool} {body : Ev → Gp → SR} (I : Ev → Gp → Prop) (m : Ev → Gp → Nat) (P : SR → Prop)
    (step : ∀ env G, I env G → ∃ b, ∃ G1, fc env G = .ok b G1 ∧ (b = true → after (body env G1) (fun e G' => I e G' ∧ m e G' < m env G) P) ∧ (b = false → P (.nx env G1))) : ∀ (n : Nat) (env : Ev) (G : Gp), I env G → m env G < n → P (whileN fc body n env G) := by
  intro n
  induction n with
  | zero => intro env G _ h; omega
  | succ n ih =>
    intro env G hI hm
    obtain ⟨b, G1, e, h1, h2⟩ := step env G hI
    unfold whileN
    rw [e]
    simp only [r_then_ok]
    cases b with
    | false => exact h2 rfl
    | true =>
      have h1 := h1 rfl
      rw [if_pos rfl]
      cases qb : body env G1 with
      | nx e2 G2 => rw [qb] at h1; exact ih e2 G2 h1.1 (by have := h1.2; omega)
      | ct e2 G2 => rw [qb] at h1; exact ih e2 G2 h1.1 (by have := h1.2; omega)
      | brk e2 G2 => rw [qb] at h1; exact h1
      | ret u G2 => rw [qb] at h1; exact h1
      | exc c fs e2 G2 => rw [qb] at h1; exact h1
      | bad => rw [qb] at h1; exact h1
/-! comprehensions -/
theorem compN_post {nth : Nat → Gp → Option (Option U)} {gf : U → Ev → Gp → R Ev} {ft : Ev → Gp → R Bool} {fe : Ev → Gp → R U} {l : Nat} {env0 : Ev} {xs : List U} (I : Nat → List U → Gp → Prop) (P : R U → Prop)
    (hs : ∀ i acc G, i ≤ xs.length → I i acc G → nth i G = some xs[i]?) (hlen : xs.length < 16777216)
    (step : ∀ (i : Nat) (hi : i < xs.length) (acc : List U) (G : Gp), I i acc G → G[l]? = some (.lst acc) → ∃ env1 G1 b G2, gf xs[i] env0 G = .ok env1 G1 ∧ ft env1 G1 = .ok b G2 ∧ (b = true → ∃ y G3, fe env1 G2 = .ok y G3 ∧ G3[l]? = some (.lst acc) ∧ I (i + 1) (acc ++ [y]) (G3.set l (.lst (acc ++ [y])))) ∧ (b = false → G2[l]? = some (.lst acc) ∧ I (i + 1) acc G2))
    (fin : ∀ acc G, acc.length ≤ xs.length → I xs.length acc G → G[l]? = some (.lst acc) → P (.ok (.ref l) G)) : ∀ (n i : Nat) (acc : List U) (G : Gp), xs.length < n + i → i ≤ xs.length → acc.length ≤ i → I i acc G → G[l]? = some (.lst acc) → P (compN nth gf ft fe l env0 n i G) := by
  intro n
  induction n with
  | zero => intro i acc G h1 h2 _ _ _; omega
  | succ n ih =>
    intro i acc G h1 h2 ha hI hl
    unfold compN
    rw [hs i acc G h2 hI]
    by_cases hi : i < xs.length
    · rw [List.getElem?_eq_getElem hi]
      obtain ⟨env1, G1, b, G2, e1, e2, h3, h4⟩ := step i hi acc G hI hl
      simp only [e1, e2, r_bindN_ok]
      cases b with
      | false =>
        obtain ⟨h5, h6⟩ := h4 rfl
        rw [if_neg (by decide)]
        exact ih (i + 1) acc G2 (by omega) hi (by omega) h6 h5
      | true =>
        obtain ⟨y, G3, e3, h5, h6⟩ := h3 rfl
        rw [if_pos rfl]
        simp only [e3, r_bindN_ok, h5]
        rw [if_pos (by omega)]
        refine ih (i + 1) (acc ++ [y]) _ (by omega) hi (by simp; omega) h6 ?_
        rw [List.getElem?_set_self (List.getElem?_eq_some_iff.mp h5).1]
    · have e : i = xs.length := by omega
      subst e
      rw [List.getElem?_eq_none (Nat.le_refl _)]
      exact fin acc G ha hI hl
theorem eComp_post {own : List Nat} {fi : Ev → Gp → R Src} {gf : U → Ev → Gp → R Ev} {ft : Ev → Gp → R Bool} {fe : Ev → Gp → R U} {env : Ev} {G G1 : Gp} {src : Src} {xs : List U} (I : Nat → List U → Gp → Prop) (P : R U → Prop) (hf : fi env G = .ok src G1)
    (hs : xs.length < src.fuel ∧ ∀ i acc G, i ≤ xs.length → I i acc G → src.at_ i G = some xs[i]?) (hlen : xs.length < 16777216) (h0 : I 0 [] (G1 ++ [.lst []]))
    (step : ∀ (i : Nat) (hi : i < xs.length) (acc : List U) (G : Gp), I i acc G → G[G1.length]? = some (.lst acc) → ∃ env1 G1' b G2, gf xs[i] (wipeE env own) G = .ok env1 G1' ∧ ft env1 G1' = .ok b G2 ∧ (b = true → ∃ y G3, fe env1 G2 = .ok y G3 ∧ G3[G1.length]? = some (.lst acc) ∧ I (i + 1) (acc ++ [y]) (G3.set G1.length (.lst (acc ++ [y])))) ∧ (b = false → G2[G1.length]? = some (.lst acc) ∧ I (i + 1) acc G2))
    (fin : ∀ acc G, acc.length ≤ xs.length → I xs.length acc G → G[G1.length]? = some (.lst acc) → P (.ok (.ref G1.length) G)) : P (eComp own fi gf ft fe env G) := by
  unfold eComp
  rw [hf]
  simp only [r_bind_ok]
  rw [eComp_run]
  exact compN_post (nth := src.nth) I P (fun i acc G h1 h2 => hs.2 i acc G h1 h2) hlen step fin src.fuel 0 [] _ (by have := hs.1; omega) (Nat.zero_le _) (Nat.le_refl _) h0 (by simp)
/-! equal lists of ints -/
def dInts (ns : List Int) : List PyData := ns.map PyData.int
theorem toD_ints (n : Nat) (G : Gp) : ∀ ns : List Int, optAll (toD G n) (ns.map U.int) = some (dInts ns)
  | [] => rfl
  | i :: r => by
    have h : toD G n (.int i) = some (.int i) := by cases n <;> rfl
    rw [List.map_cons]
    unfold optAll
    rw [h, toD_ints n G r]
    rfl
theorem lay_ints : ∀ ns : List Int, PyData.canLayAll0 (dInts ns) = true
  | [] => by simp [dInts, PyData.canLayAll0]
  | i :: r => by
    have := lay_ints r
    unfold dInts at *
    simp [PyData.canLayAll0, PyData.canLay0, this]
theorem depth_ints : ∀ ns : List Int, PyData.depthAll (dInts ns) = 0
  | [] => by simp [dInts, PyData.depthAll]
  | i :: r => by
    have := depth_ints r
    unfold dInts at *
    simp [PyData.depthAll, PyData.depth, this]
theorem eqv_ints : ∀ ns ms : List Int, PyData.eqvAll (dInts ns) (dInts ms) = decide (ns = ms)
  | [], [] => by simp [dInts, PyData.eqvAll]
  | [], _ :: _ => by simp [dInts, PyData.eqvAll]
  | _ :: _, [] => by simp [dInts, PyData.eqvAll]
  | i :: r, j :: s => by
    have := eqv_ints r s
    unfold dInts at *
    simp only [List.map_cons, PyData.eqvAll, PyData.eqv, this, List.cons.injEq, Bool.decide_and]
    congr 1
theorem shaped_list (ns : List Int) : SeqAt.shaped (.list (dInts ns)) = true := by
  unfold SeqAt.shaped
  simp [PyData.canLay0, lay_ints, PyData.depth, depth_ints]
theorem shaped_tup (ns : List Int) : SeqAt.shaped (.tuple (dInts ns)) = true := by
  unfold SeqAt.shaped
  simp [PyData.canLay0, lay_ints, PyData.depth, depth_ints]
theorem eqU_refs {G : Gp} {l m : Nat} {ns ms : List Int} (h1 : G[l]? = some (.lst (ns.map .int))) (h2 : G[m]? = some (.lst (ms.map .int))) : eqU G (.ref l) (.ref m) = some (decide (ns = ms)) := by
  have e1 : toD G 40 (.ref l) = some (.list (dInts ns)) := by
    show (match G[l]? with
      | some (.lst xs) => (optAll (toD G 39) xs).map PyData.list
      | _ => none) = _
    rw [h1]; simp only [toD_ints]; rfl
  have e2 : toD G 40 (.ref m) = some (.list (dInts ms)) := by
    show (match G[m]? with
      | some (.lst xs) => (optAll (toD G 39) xs).map PyData.list
      | _ => none) = _
    rw [h2]; simp only [toD_ints]; rfl
  show (match toD G 40 (.ref l), toD G 40 (.ref m) with
    | some d, some e => if SeqAt.shaped d = true ∧ SeqAt.shaped e = true then some (PyData.eqv d e) else none
    | _, _ => none) = _
  rw [e1, e2]
  simp only [shaped_list, and_self, if_true, PyData.eqv, eqv_ints]
end FL

set_option Elab.async false
set_option linter.all false
set_option maxRecDepth 100000
set_option maxHeartbeats 4000000
set_option autoImplicit false
/-! all, any of a list of bools; list.insert -/
namespace FL
open PySem PySem.Spec L2
def boolsU : List U → Option (List Bool)
  | [] => some []
  | .bl b :: r => (boolsU r).map (b :: ·)
  | _ => none
theorem boolsU_map : ∀ l : List Bool, boolsU (l.map .bl) = some l
  | [] => rfl
  | x :: r => by rw [List.map_cons]; unfold boolsU; rw [boolsU_map r]; rfl
def bBools (g : List Bool → Bool) (us : List U) (G : Gp) : R U := match us with
  | [.ref l] => match G[l]? with
    | some (.lst xs) => match boolsU xs with
      | some bs => .ok (.bl (g bs)) G
      | none => .bad
    | _ => .bad
  | _ => .bad
abbrev bAll := bBools (fun bs => bs.all id)
abbrev bAny := bBools (fun bs => bs.any id)
theorem bBools_ref {g : List Bool → Bool} {l : Nat} {bs : List Bool} {G : Gp} (h : G[l]? = some (.lst (bs.map .bl))) : bBools g [.ref l] G = .ok (.bl (g bs)) G := by
  unfold bBools
  simp only [h, boolsU_map]
section
variable {K : KZ}
theorem boolsU_rel {ρ : List Addr} {H : Hp} : ∀ {xs : List U} {vs : List V} {bs : List Bool}, RUs K ρ H xs vs → boolsU xs = some bs → vs = bs.map V.bl
  | _, _, bs, .nil, h => by cases h; rfl
  | _, _, bs, .cons (x := x) (xs := xs) hx ht, h => by
    cases hx with
    | bl i =>
      unfold boolsU at h
      cases q : boolsU xs with
      | none => rw [q] at h; exact nomatch h
      | some ms =>
        rw [q] at h
        cases h
        rw [boolsU_rel ht q]; rfl
    | _ => exact nomatch h
theorem bBools_ok {g : List Bool → Bool} {ρ : List Addr} {G : Gp} {H : Hp} {us : List U} {vs : List V} {Q : VK} {E : XK} (S : Sim K ρ G H) (r : RUs K ρ H us vs) (h : Post K (RU K) ρ H (bBools g us G) Q E) :
    ∃ (a : Addr) (bs : List Bool), vs = [.ref a] ∧ SqL K.K H a (bs.map V.bl) ∧ Q (.bl (g bs)) H := by
  unfold bBools at h
  split at h
  · rename_i l
    obtain ⟨v, rfl, rv⟩ := r.one
    cases rv with
    | @ref _ a ha =>
      cases q : G[l]? with
      | none => rw [q] at h; exact h.elim
      | some o =>
        rw [q] at h
        cases o with
        | lst xs =>
          simp only at h
          cases q2 : boolsU xs with
          | none => rw [q2] at h; exact h.elim
          | some bs =>
            rw [q2] at h
            obtain ⟨ws, e1, r1⟩ := S.list ha q
            have e := boolsU_rel r1 q2
            subst e
            exact ⟨a, bs, rfl, SqL.of e1, h.end_ S (.bl _)⟩
        | _ => exact h.elim
  · exact h.elim
theorem oAll : OpN K (rAll K.K) bAll := by
  intro ρ G H us vs Q E S r h
  exact bBools_ok S r h
theorem oAny : OpN K (rAny K.K) bAny := by
  intro ρ G H us vs Q E S r h
  exact bBools_ok S r h
def rInsert : V → List V → Hp → VK → Prop := fun x vs H Q => ∃ (l : Addr) (xs : List V) (i : Int) (y : V), x = .ref l ∧ vs = [.int i, y] ∧ H l = some (.lst xs) ∧ xs.length < sizeLine ∧ 0 ≤ i ∧ i < 2 ^ 63 ∧
    Q .non (upd H l (.lst (xs.take i.toNat ++ [y] ++ xs.drop i.toNat)))
def mInsert (x : U) (us : List U) (G : Gp) : R U := match x, us with
  | .ref l, [.int i, y] => if 0 ≤ i ∧ i < 2 ^ 63 then match G[l]? with
    | some (.lst xs) => if xs.length < 16777216 then .ok .non (G.set l (.lst (xs.take i.toNat ++ [y] ++ xs.drop i.toNat))) else .bad
    | _ => .bad
    else .bad
  | _, _ => .bad
theorem mInsert_ref {l : Nat} {xs : List U} {y : U} {i : Int} {G : Gp} (h : G[l]? = some (.lst xs)) (h0 : 0 ≤ i) (h1 : i < 2 ^ 63) (hl : xs.length < 16777216) : mInsert (.ref l) [.int i, y] G = .ok .non (G.set l (.lst (xs.take i.toNat ++ [y] ++ xs.drop i.toNat))) := by
  unfold mInsert
  simp only [if_pos (And.intro h0 h1), h, if_pos hl]
theorem oInsert : OpM K rInsert mInsert := by
  intro ρ G H x v us vs Q E S rx rs h
  unfold mInsert at h
  split at h
  · rename_i l i y
    by_cases hi : 0 ≤ i ∧ i < 2 ^ 63
    · rw [if_pos hi] at h
      cases rx with
      | @ref _ a ha =>
        obtain ⟨w0, w1, rfl, rw0, rw1⟩ := rs.two
        cases rw0
        cases q : G[l]? with
        | none => rw [q] at h; exact h.elim
        | some o =>
          rw [q] at h
          cases o with
          | lst xs =>
            obtain ⟨ws, e, r⟩ := S.list ha q
            simp only at h
            by_cases hl : xs.length < 16777216
            · rw [if_pos hl] at h
              exact ⟨a, ws, i, w1, rfl, rfl, e, by rw [← r.len, line_eq]; exact hl, hi.1, hi.2, updEnd (xs := xs) S ha e (((r.take i.toNat).append (.cons rw1 .nil)).append (r.drop i.toNat)) .non h⟩
            · rw [if_neg hl] at h; exact h.elim
          | _ => exact h.elim
    · rw [if_neg hi] at h; exact h.elim
  · exact h.elim
end
section
variable {X : Cx} {Z : ZZ X.K} {W : WX} {e : Expr} {fa : Ev → Gp → R (List U)} {p pos : Pos}
theorem mtInsert : MtR X "list.insert" rInsert := mt_insert
theorem fall (hc : X.calm = true) (hm : X.mg "all" = none) (ha : FA X Z W [e] fa) (hg : Gl X "all" := by rfl) (he : starEach [e] X.env = (false, eval e X.env) :: starEach [] X.env := by rfl) (hpl : (backTo pos (starEach [] X.env)).any (·.1) = false := by rfl) : FE X Z W (.Call (.Name "all" p) [e] [] pos) (eCall bAll fa) :=
  fcallB oAll (cr_all hc) hg hm (by decide +kernel) ha (by decide) (by decide) he hpl
theorem fany (hc : X.calm = true) (hm : X.mg "any" = none) (ha : FA X Z W [e] fa) (hg : Gl X "any" := by rfl) (he : starEach [e] X.env = (false, eval e X.env) :: starEach [] X.env := by rfl) (hpl : (backTo pos (starEach [] X.env)).any (·.1) = false := by rfl) : FE X Z W (.Call (.Name "any" p) [e] [] pos) (eCall bAny fa) :=
  fcallB oAny (cr_any hc) hg hm (by decide +kernel) ha (by decide) (by decide) he hpl
end
end FL

set_option Elab.async false
set_option linter.all false
set_option maxRecDepth 100000
set_option maxHeartbeats 4000000
set_option autoImplicit false
/-! is True, is False; list(range(..)), tuple(range(..)) -/
namespace FL
open PySem PySem.Spec L2
def gIsB (x y : U) (G : Gp) : R U := match x, y with
  | .bl a, .bl b => .ok (.bl (decide (a = b))) G
  | _, _ => .bad
def gNotB (x y : U) (G : Gp) : R U := match x, y with
  | .bl a, .bl b => .ok (.bl (!decide (a = b))) G
  | _, _ => .bad
@[simp] theorem gIsB_ (a b : Bool) (G : Gp) : gIsB (.bl a) (.bl b) G = .ok (.bl (decide (a = b))) G := id rfl
@[simp] theorem gNotB_ (a b : Bool) (G : Gp) : gNotB (.bl a) (.bl b) G = .ok (.bl (!decide (a = b))) G := id rfl
def rgI (a b : Int) : List Int := (List.range (b - a).toNat).map fun i => a + (i : Nat)
def rgOk (a b : Int) : Prop := -(2 ^ 62) ≤ a ∧ a < 2 ^ 62 ∧ -(2 ^ 62) ≤ b ∧ b < 2 ^ 62 ∧ (b - a).toNat ≤ 2 ^ 24
instance (a b : Int) : Decidable (rgOk a b) := by unfold rgOk; infer_instance
def gRgL (x y : U) (G : Gp) : R U := match x, y with
  | .int a, .int b => if rgOk a b then .ok (.ref G.length) (G ++ [.lst ((rgI a b).map .int)]) else .bad
  | _, _ => .bad
theorem gRgL_ok {a b : Int} {G : Gp} (h1 : -1000000 ≤ a) (h2 : a < 1000000) (h3 : -1000000 ≤ b) (h4 : b < 1000000) : gRgL (.int a) (.int b) G = .ok (.ref G.length) (G ++ [.lst ((rgI a b).map .int)]) := by
  have e62 : (2 : Int) ^ 62 = 4611686018427387904 := by decide
  have e24 : 2 ^ 24 = 16777216 := by decide
  exact if_pos ⟨by rw [e62]; omega, by rw [e62]; omega, by rw [e62]; omega, by rw [e62]; omega, by rw [e24]; omega⟩
section
variable {K : KZ}
theorem o2IsB : Op2 K (fun x y H Q => ∃ a b, x = .bl a ∧ y = .bl b ∧ Q (.bl (decide (a = b))) H) gIsB := by
  intro ρ G H x y v w Q E S rx ry h
  cases rx with
  | bl a =>
    cases ry with
    | bl b => exact ⟨a, b, rfl, rfl, h.end_ S (.bl _)⟩
    | _ => exact h.elim
  | _ => cases ry <;> exact h.elim
theorem o2NotB : Op2 K (fun x y H Q => ∃ a b, x = .bl a ∧ y = .bl b ∧ Q (.bl (!decide (a = b))) H) gNotB := by
  intro ρ G H x y v w Q E S rx ry h
  cases rx with
  | bl a =>
    cases ry with
    | bl b => exact ⟨a, b, rfl, rfl, h.end_ S (.bl _)⟩
    | _ => exact h.elim
  | _ => cases ry <;> exact h.elim
theorem rgV_eq (a b : Int) : rgV a b = (rgI a b).map V.int := by
  unfold rgV rgI
  rw [List.map_map]
  rfl
end
section
variable {X : Cx} {Z : ZZ X.K} {W : WX} {a b : Expr} {fa fb : Ev → Gp → R U} {p q pos pos2 : Pos}
theorem fisB (ha : FE X Z W a fa) (hb : FE X Z W b fb) : FE X Z W (.Compare a [.Is] [b] pos) (eBin gIsB fa fb) := fcmp o2IsB op_is_bl ha hb (nomark _)
theorem fnotB (ha : FE X Z W a fa) (hb : FE X Z W b fb) : FE X Z W (.Compare a [.IsNot] [b] pos) (eBin gNotB fa fb) := fcmp o2NotB op_isnot_bl ha hb (nomark _)
theorem tisB (ha : FE X Z W a fa) (hb : FE X Z W b fb) : FT X Z W (.Compare a [.Is] [b] pos) (bVal (eBin gIsB fa fb)) := ft_cmp o2IsB op_is_bl ha hb (nomark _)
theorem tnotB (ha : FE X Z W a fa) (hb : FE X Z W b fb) : FT X Z W (.Compare a [.IsNot] [b] pos) (bVal (eBin gNotB fa fb)) := ft_cmp o2NotB op_isnot_bl ha hb (nomark _)
theorem flistRg2 (hc : X.calm = true) (hml : X.mg "list" = none) (hmr : X.mg "range" = none) (ha : FE X Z W a fa) (hb : FE X Z W b fb) (hgl : Gl X "list" := by rfl) (hgr : Gl X "range" := by rfl)
    (na : starEach [.Call (.Name "range" q) [a, b] [] pos2] X.env = (false, eval (.Call (.Name "range" q) [a, b] [] pos2) X.env) :: starEach [] X.env := by rfl)
    (na2 : starEach [a, b] X.env = (false, eval a X.env) :: starEach [b] X.env := by rfl) (nb : starEach [b] X.env = (false, eval b X.env) :: starEach [] X.env := by rfl) (hp : (backTo pos2 (starEach [b] X.env)).any (·.1) = false := by rfl) :
    FE X Z W (.Call (.Name "list" p) [.Call (.Name "range" q) [a, b] [] pos2] [] pos) (eBin gRgL fa fb) := by
  refine PEimp (pe_listRg hc hgl hml (prg_2 hgr hmr ha hb na2 nb hp) na) fun σ H Q ⟨ρ, G, env, S, e, h⟩ => ?_
  refine tG_mono (step S e h) fun v H1 ⟨ρ1, G1, x, p1, s1, S1, e1, r1, h1⟩ => ?_
  refine tG_mono (step S1 e1 h1) fun w H2 ⟨ρ2, G2, y, p2, s2, S2, e2, r2, h2⟩ => ?_
  have r1 := r1.mono p2 s2
  cases r1 with
  | int i =>
    cases r2 with
    | int j =>
      have h2 : Post _ _ _ _ (if rgOk i j then R.ok (U.ref G2.length) (G2 ++ [.lst ((rgI i j).map .int)]) else .bad) _ _ := h2
      by_cases hr : rgOk i j
      · rw [if_pos hr] at h2
        refine ⟨i, j, rfl, rfl, hr, ?_⟩
        rw [rgV_eq]
        exact newLst S2 (RUs.ints _) h2
      · rw [if_neg hr] at h2; exact h2.elim
    | _ => exact h2.elim
  | _ => cases r2 <;> exact h2.elim
end
end FL

set_option Elab.async false
set_option linter.all false
set_option maxRecDepth 100000
set_option maxHeartbeats 4000000
set_option autoImplicit false
/-! dicts (keys ints and texts): {}, in, d[k] = v, len, pop; list.reverse, list.extend; math.comb; a module's tuple -/
namespace FL
open PySem PySem.Spec L2
theorem u1 {n : Nat} (h : n + 64 < cLine) : n + 1 < cLine := by omega
def keyEq1 : U → U → Bool
  | .int a, .int b => decide (a = b)
  | .str a, .str b => decide (a = b)
  | _, _ => false
def keysEq : List U → List U → Bool
  | [], [] => true
  | x :: xs, y :: ys => keyEq1 x y && keysEq xs ys
  | _, _ => false
def keyEq : U → U → Bool
  | .tup a, .tup b => keysEq a b
  | x, y => keyEq1 x y
def isK : U → Bool
  | .int _ => true
  | .str _ => true
  | _ => false
def isKT : U → Bool
  | .tup xs => xs.all isK
  | _ => false
def dGet (kvs : List (U × U)) (k : U) : Option U := (kvs.find? fun p => keyEq p.1 k).map (·.2)
def dPut (kvs : List (U × U)) (k v : U) : List (U × U) := if (kvs.any fun p => keyEq p.1 k) = true then kvs.map (fun p => if keyEq p.1 k = true then (p.1, v) else p) else kvs ++ [(k, v)]
def dDrop (kvs : List (U × U)) (k : U) : List (U × U) := kvs.filter fun p => !keyEq p.1 k
/-- {}: a dict whose keys are ints and texts (false), tuples of them (true) -/
def dOU (t : Bool) (kvs : List (U × U)) : OU := if t then .dtp kvs else .dct kvs
def eDict0 (t : Bool) : Ev → Gp → R U := fun _ G => .ok (.ref G.length) (G ++ [dOU t []])
def dAt (t : Bool) (o : Option OU) : Option (List (U × U)) := match o with
  | some (.dct kvs) => if t then none else some kvs
  | some (.dtp kvs) => if t then some kvs else none
  | _ => none
def dctAt (t : Bool) (x : U) (G : Gp) : Option (List (U × U)) := match x with
  | .ref l => dAt t G[l]?
  | _ => none
def isKy (t : Bool) (u : U) : Bool := if t then isKT u else isK u
def gInD (t neg : Bool) (y x : U) (G : Gp) : R U := match dctAt t x G with
  | some kvs => if isKy t y = true then .ok (.bl (if neg then !(dGet kvs y).isSome else (dGet kvs y).isSome)) G else .bad
  | none => .bad
def gIdxD (t : Bool) (x y : U) (G : Gp) : R U := match dctAt t x G with
  | some kvs => if isKy t y = true then match dGet kvs y with
    | some v => .ok v G
    | none => .bad
    else .bad
  | none => .bad
def bLenD (us : List U) (G : Gp) : R U := match us with
  | [x] => match dctAt false x G with
    | some kvs => .ok (.int kvs.length) G
    | none => .bad
  | _ => .bad
def setD (t : Bool) (o i v : U) (G : Gp) : R Unit := match o with
  | .ref l => match dAt t G[l]? with
    | some kvs => if isKy t i = true ∧ kvs.length < 16777216 then .ok () (G.set l (dOU t (dPut kvs i v))) else .bad
    | _ => .bad
  | _ => .bad
def gSubD (t : Bool) (fo fi : Ev → Gp → R U) : U → Ev → Gp → R Ev := fun v env G => (fo env G).bindN fun o G1 => (fi env G1).bindN fun i G2 => (setD t o i v G2).bindN fun _ G3 => .ok env G3
/-- d.pop(k), k there -/
def popD (o i : U) (G : Gp) : R U := match o with
  | .ref l => match G[l]? with
    | some (.dct kvs) => if isK i = true then match dGet kvs i with
      | some v => .ok v (G.set l (.dct (dDrop kvs i)))
      | none => .bad
      else .bad
    | _ => .bad
  | _ => .bad
def isDct (x : U) (G : Gp) : Bool := (dctAt false x G).isSome
def ePopD (fo fi : Ev → Gp → R U) : Ev → Gp → R U := fun env G => (fo env G).bind fun o G1 => if isDct o G1 = true then (fi env G1).bind fun i G2 => popD o i G2 else .bad
/-! facts for the plain side -/
theorem dAt_ok {t : Bool} {kvs : List (U × U)} {o : Option OU} (h : o = some (dOU t kvs)) : dAt t o = some kvs := by subst h; cases t <;> rfl
theorem dctAt_ref {t : Bool} {l : Nat} {kvs : List (U × U)} {G : Gp} (h : G[l]? = some (dOU t kvs)) : dctAt t (.ref l) G = some kvs := dAt_ok h
theorem gInD_ref {t neg : Bool} {l : Nat} {kvs : List (U × U)} {y : U} {G : Gp} (h : G[l]? = some (dOU t kvs)) (hk : isKy t y = true) : gInD t neg y (.ref l) G = .ok (.bl (if neg then !(dGet kvs y).isSome else (dGet kvs y).isSome)) G := by
  unfold gInD
  simp only [dctAt_ref h, hk, if_true]
theorem gIdxD_ref {t : Bool} {l : Nat} {kvs : List (U × U)} {y v : U} {G : Gp} (h : G[l]? = some (dOU t kvs)) (hk : isKy t y = true) (hv : dGet kvs y = some v) : gIdxD t (.ref l) y G = .ok v G := by
  unfold gIdxD
  simp only [dctAt_ref h, hk, if_true, hv]
theorem bLenD_ref {l : Nat} {kvs : List (U × U)} {G : Gp} (h : G[l]? = some (.dct kvs)) : bLenD [.ref l] G = .ok (.int kvs.length) G := by
  unfold bLenD
  simp only [dctAt_ref (t := false) h]
theorem setD_ref {t : Bool} {l : Nat} {kvs : List (U × U)} {i v : U} {G : Gp} (h : G[l]? = some (dOU t kvs)) (hk : isKy t i = true) (hl : kvs.length < 16777216) : setD t (.ref l) i v G = .ok () (G.set l (dOU t (dPut kvs i v))) := by
  unfold setD
  simp only [dAt_ok h, if_pos (And.intro hk hl)]
theorem popD_ref {l : Nat} {kvs : List (U × U)} {i v : U} {G : Gp} (h : G[l]? = some (.dct kvs)) (hk : isK i = true) (hv : dGet kvs i = some v) : popD (.ref l) i G = .ok v (G.set l (.dct (dDrop kvs i))) := by
  unfold popD
  simp only [h, hk, if_true, hv]
theorem isDct_ref {l : Nat} {kvs : List (U × U)} {G : Gp} (h : G[l]? = some (.dct kvs)) : isDct (.ref l) G = true := by
  unfold isDct
  rw [dctAt_ref (t := false) h]
  rfl
/-! relation -/
theorem isK_uk {u : U} (h : isK u = true) : ∃ k, uk u = some k := by
  cases u with
  | int i => exact ⟨.inl i, rfl⟩
  | str x => exact ⟨.inr x, rfl⟩
  | _ => exact nomatch h
theorem isK_uks : ∀ {us : List U}, us.all isK = true → ∃ ks, uks us = some ks
  | [], _ => ⟨[], rfl⟩
  | u :: us, h => by
    rw [List.all_cons] at h
    obtain ⟨h1, h2⟩ := Bool.and_eq_true_iff.mp h
    obtain ⟨k, hk⟩ := isK_uk h1
    obtain ⟨ks, hks⟩ := isK_uks h2
    exact ⟨k :: ks, by unfold uks; rw [hk, hks]⟩
theorem isKT_utk {u : U} (h : isKT u = true) : ∃ k, utk u = some k := by
  cases u with
  | tup xs => exact isK_uks h
  | _ => exact nomatch h
theorem keyEq1_uk {a b : U} {j k : Key} (ha : uk a = some j) (hb : uk b = some k) : keyEq1 a b = decide (j = k) := by
  cases a <;> cases b <;> simp only [uk, Option.some.injEq, reduceCtorEq] at ha hb <;> subst ha hb <;> simp [keyEq1]
theorem keyEq_uk {a b : U} {j k : Key} (ha : uk a = some j) (hb : uk b = some k) : keyEq a b = decide (j = k) := by
  rw [← keyEq1_uk ha hb]
  cases a <;> first | rfl | exact nomatch ha
theorem uks_cons {x : U} {xs : List U} {js : List Key} (h : uks (x :: xs) = some js) : ∃ k ks, uk x = some k ∧ uks xs = some ks ∧ js = k :: ks := by
  unfold uks at h
  cases q : uk x with
  | none => rw [q] at h; exact nomatch h
  | some k =>
    cases q2 : uks xs with
    | none => rw [q, q2] at h; exact nomatch h
    | some ks => rw [q, q2] at h; cases h; exact ⟨k, ks, rfl, rfl, rfl⟩
theorem keysEq_uks : ∀ {a b : List U} {j k : List Key}, uks a = some j → uks b = some k → keysEq a b = decide (j = k)
  | [], [], _, _, ha, hb => by cases ha; cases hb; rfl
  | [], y :: ys, _, _, ha, hb => by
    obtain ⟨k, ks, _, _, rfl⟩ := uks_cons hb
    cases ha
    rfl
  | x :: xs, [], _, _, ha, hb => by
    obtain ⟨k, ks, _, _, rfl⟩ := uks_cons ha
    cases hb
    rfl
  | x :: xs, y :: ys, _, _, ha, hb => by
    obtain ⟨j, js, h1, h2, rfl⟩ := uks_cons ha
    obtain ⟨k, ks, h3, h4, rfl⟩ := uks_cons hb
    show (keyEq1 x y && keysEq xs ys) = _
    rw [keyEq1_uk h1 h3, keysEq_uks h2 h4]
    simp only [List.cons.injEq, Bool.decide_and]
theorem keyEq_utk {a b : U} {j k : List Key} (ha : utk a = some j) (hb : utk b = some k) : keyEq a b = decide (j = k) := by
  cases a with
  | tup xs =>
    cases b with
    | tup ys => exact keysEq_uks ha hb
    | _ => exact nomatch hb
  | _ => exact nomatch ha
/-- equal keys are told by keyEq -/
def KF {κ : Type} [DecidableEq κ] (f : U → Option κ) : Prop := ∀ {a b : U} {j k : κ}, f a = some j → f b = some k → keyEq a b = decide (j = k)
section
variable {K : KZ} {ρ : List Addr} {H : Hp}
theorem uk_kV {u : U} {v : V} {k : Key} (r : RU K ρ H u v) (h : uk u = some k) : v = kV k := by
  cases r <;> simp only [uk, Option.some.injEq, reduceCtorEq] at h <;> subst h <;> rfl
theorem uks_kV : ∀ {us : List U} {vs : List V} {ks : List Key}, RUs K ρ H us vs → uks us = some ks → vs = ks.map kV
  | _, _, _, .nil, h => by cases h; rfl
  | _, _, _, .cons r t, h => by
    obtain ⟨k, ks, h1, h2, rfl⟩ := uks_cons h
    rw [uk_kV r h1, uks_kV t h2]
    rfl
theorem utk_tup {u : U} {v : V} {k : List Key} (r : RU K ρ H u v) (h : utk u = some k) : ∃ b, v = .ref b ∧ H b = some (.tup (k.map kV)) := by
  cases r with
  | tup ht hr => exact ⟨_, rfl, by rw [← uks_kV hr h]; exact ht⟩
  | _ => exact nomatch h
section
variable {κ : Type} [DecidableEq κ] {f : U → Option κ}
theorem RKs.any (F : KF f) {u : U} {k : κ} (hu : f u = some k) : ∀ {kvs : List (U × U)} {vk : List (κ × V)}, RKs f K ρ H kvs vk → (kvs.any fun p => keyEq p.1 u) = vk.any fun p => decide (p.1 = k)
  | _, _, .nil => rfl
  | _, _, .cons hk r t => by rw [List.any_cons, List.any_cons, RKs.any F hu t, F hk hu]
theorem RKs.len : ∀ {kvs : List (U × U)} {vk : List (κ × V)}, RKs f K ρ H kvs vk → kvs.length = vk.length
  | _, _, .nil => rfl
  | _, _, .cons hk r t => by rw [List.length_cons, List.length_cons, RKs.len t]
theorem RKs.get (F : KF f) {u : U} {k : κ} (hu : f u = some k) : ∀ {kvs : List (U × U)} {vk : List (κ × V)}, RKs f K ρ H kvs vk → (dGet kvs u = none ∧ valV vk k = none) ∨ ∃ x v, dGet kvs u = some x ∧ valV vk k = some v ∧ RU K ρ H x v
  | _, _, .nil => .inl ⟨rfl, rfl⟩
  | _, _, .cons (x := x) (k := j) hk r t => by
    have e := F hk hu
    by_cases c : j = k
    · have e : keyEq x u = true := by rw [e]; exact decide_eq_true c
      refine .inr ⟨_, _, ?_, ?_, r⟩
      · unfold dGet; rw [List.find?_cons, e]; rfl
      · exact valV_pos c
    · have e : keyEq x u = false := by rw [e]; exact decide_eq_false c
      rcases RKs.get F hu t with ⟨h1, h2⟩ | ⟨y, v, h1, h2, h3⟩
      · refine .inl ⟨?_, ?_⟩
        · unfold dGet at h1 ⊢; rw [List.find?_cons, e]; exact h1
        · rw [valV_neg c]; exact h2
      · refine .inr ⟨y, v, ?_, ?_, h3⟩
        · unfold dGet at h1 ⊢; rw [List.find?_cons, e]; exact h1
        · rw [valV_neg c]; exact h2
theorem RKs.snoc {u x : U} {k : κ} {v : V} (hu : f u = some k) (r : RU K ρ H x v) : ∀ {kvs : List (U × U)} {vk : List (κ × V)}, RKs f K ρ H kvs vk → RKs f K ρ H (kvs ++ [(u, x)]) (vk ++ [(k, v)])
  | _, _, .nil => .cons hu r .nil
  | _, _, .cons hk r' t => .cons hk r' (RKs.snoc hu r t)
theorem RKs.repl (F : KF f) {u x : U} {k : κ} {v : V} (hu : f u = some k) (r : RU K ρ H x v) : ∀ {kvs : List (U × U)} {vk : List (κ × V)}, RKs f K ρ H kvs vk →
    RKs f K ρ H (kvs.map fun p => if keyEq p.1 u = true then (p.1, x) else p) (vk.map fun kv => if kv.1 = k then (kv.1, v) else kv)
  | _, _, .nil => .nil
  | _, _, .cons (x := y) (k := j) hk r' t => by
    have e := F hk hu
    by_cases c : j = k
    · have e : keyEq y u = true := by rw [e]; exact decide_eq_true c
      rw [List.map_cons, List.map_cons, if_pos e, if_pos c]
      exact .cons hk r (RKs.repl F hu r t)
    · have e : ¬ keyEq y u = true := by rw [e]; simpa using c
      rw [List.map_cons, List.map_cons, if_neg e, if_neg c]
      exact .cons hk r' (RKs.repl F hu r t)
theorem RKs.put (F : KF f) {u x : U} {k : κ} {v : V} (hu : f u = some k) (r : RU K ρ H x v) {kvs : List (U × U)} {vk : List (κ × V)} (h : RKs f K ρ H kvs vk) : RKs f K ρ H (dPut kvs u x) (putK vk k v) := by
  unfold dPut putK
  rw [h.any F hu]
  split
  · exact h.repl F hu r
  · exact h.snoc hu r
theorem RKs.drop (F : KF f) {u : U} {k : κ} (hu : f u = some k) : ∀ {kvs : List (U × U)} {vk : List (κ × V)}, RKs f K ρ H kvs vk → RKs f K ρ H (dDrop kvs u) (dropK vk k)
  | _, _, .nil => .nil
  | _, _, .cons (x := y) (k := j) hk r' t => by
    have ih := RKs.drop F hu t
    have e := F hk hu
    unfold dDrop dropK at ih ⊢
    by_cases c : j = k
    · rw [List.filter_cons_of_neg (by rw [e]; simpa using c), List.filter_cons_of_neg (by simpa using c)]
      exact ih
    · rw [List.filter_cons_of_pos (by rw [e]; simpa using c), List.filter_cons_of_pos (by simpa using c)]
      exact .cons hk r' ih
end
theorem kfK : KF uk := fun ha hb => keyEq_uk ha hb
theorem kfT : KF utk := fun ha hb => keyEq_utk ha hb
variable {G : Gp}
theorem Sim.dct (S : Sim K ρ G H) {l : Nat} {a : Addr} {kvs : List (U × U)} (ha : ρ[l]? = some a) (hl : G[l]? = some (.dct kvs)) : ∃ vk, H a = some (.dK vk) ∧ RKs uk K ρ H kvs vk := by
  obtain ⟨ho, e, r⟩ := S.ob l _ a hl ha
  cases ho <;> first | exact r.elim | exact ⟨_, e, r⟩
theorem Sim.dtp (S : Sim K ρ G H) {l : Nat} {a : Addr} {kvs : List (U × U)} (ha : ρ[l]? = some a) (hl : G[l]? = some (.dtp kvs)) : ∃ vk, H a = some (.dT vk) ∧ RKs utk K ρ H kvs vk := by
  obtain ⟨ho, e, r⟩ := S.ob l _ a hl ha
  cases ho <;> first | exact r.elim | exact ⟨_, e, r⟩
theorem Sim.setDct (S : Sim K ρ G H) {l : Nat} {a : Addr} {ks : List (U × U)} {vk ws : List (Key × V)} (ha : ρ[l]? = some a) (e : H a = some (.dK vk)) (r : RKs uk K ρ H ks ws) : Sim K ρ (G.set l (.dct ks)) (upd H a (.dK ws)) ∧ Stb K H (upd H a (.dK ws)) := by
  have st : Stb K H (upd H a (.dK ws)) := stb_write e (fun _ z => nomatch z) (fun _ _ z => nomatch z) fun _ z => nomatch z
  exact ⟨S.write ha e (fun _ z => nomatch z) (fun _ _ z => nomatch z) (fun _ z => nomatch z) (show RKs uk K ρ _ ks ws from r.mono pre_refl st), st⟩
theorem Sim.setDtp (S : Sim K ρ G H) {l : Nat} {a : Addr} {ks : List (U × U)} {vk ws : List (List Key × V)} (ha : ρ[l]? = some a) (e : H a = some (.dT vk)) (r : RKs utk K ρ H ks ws) : Sim K ρ (G.set l (.dtp ks)) (upd H a (.dT ws)) ∧ Stb K H (upd H a (.dT ws)) := by
  have st : Stb K H (upd H a (.dT ws)) := stb_write e (fun _ z => nomatch z) (fun _ _ z => nomatch z) fun _ z => nomatch z
  exact ⟨S.write ha e (fun _ z => nomatch z) (fun _ _ z => nomatch z) (fun _ z => nomatch z) (show RKs utk K ρ _ ks ws from r.mono pre_refl st), st⟩
theorem dAt_is {t : Bool} {o : Option OU} {kvs : List (U × U)} (h : dAt t o = some kvs) : o = some (dOU t kvs) := by
  unfold dAt at h
  split at h
  · cases t
    · cases h; rfl
    · exact nomatch h
  · cases t
    · exact nomatch h
    · cases h; rfl
  · exact nomatch h
theorem dctAt_ok {t : Bool} {x : U} {v : V} {kvs : List (U × U)} (r : RU K ρ H x v) (h : dctAt t x G = some kvs) : ∃ l a, x = .ref l ∧ v = .ref a ∧ ρ[l]? = some a ∧ G[l]? = some (dOU t kvs) := by
  cases r with
  | @ref l a ha => exact ⟨l, a, rfl, rfl, ha, dAt_is h⟩
  | _ => exact nomatch h
/-- what the dict holds at a key -/
theorem dget_ok {t : Bool} {y : U} {vy : V} {l : Nat} {a : Addr} {kvs : List (U × U)} (S : Sim K ρ G H) (ry : RU K ρ H y vy) (hk : isKy t y = true) (ha : ρ[l]? = some a) (hl : G[l]? = some (dOU t kvs)) :
    (dGet kvs y = none ∧ DGet H a vy none) ∨ ∃ x v, dGet kvs y = some x ∧ DGet H a vy (some v) ∧ RU K ρ H x v := by
  cases t with
  | false =>
    obtain ⟨k, hk⟩ := isK_uk hk
    obtain ⟨vk, e, r⟩ := S.dct ha hl
    have ey := uk_kV ry hk
    subst ey
    have g := DGet.k (k := k) e
    rcases r.get kfK hk with ⟨h1, h2⟩ | ⟨x, v, h1, h2, h3⟩
    · rw [h2] at g; exact .inl ⟨h1, g⟩
    · rw [h2] at g; exact .inr ⟨x, v, h1, g, h3⟩
  | true =>
    obtain ⟨k, hk⟩ := isKT_utk hk
    obtain ⟨vk, e, r⟩ := S.dtp ha hl
    obtain ⟨b, rfl, hb⟩ := utk_tup ry hk
    have g := DGet.t e hb
    rcases r.get kfT hk with ⟨h1, h2⟩ | ⟨x, v, h1, h2, h3⟩
    · rw [h2] at g; exact .inl ⟨h1, g⟩
    · rw [h2] at g; exact .inr ⟨x, v, h1, g, h3⟩
end
/-! rules -/
def rInD (neg : Bool) : R2 := fun y x H Q => ∃ a o, x = .ref a ∧ DGet H a y o ∧ Q (.bl (if neg then !o.isSome else o.isSome)) H
theorem o2InD {K : KZ} {t neg : Bool} : Op2 K (rInD neg) (gInD t neg) := by
  intro ρ G H y x vy vx Q E S ry rx h
  unfold gInD at h
  cases q : dctAt t x G with
  | none => simp only [q] at h; exact h.elim
  | some kvs =>
    simp only [q] at h
    by_cases hk : isKy t y = true
    · rw [if_pos hk] at h
      obtain ⟨l, a, rfl, rfl, ha, hl⟩ := dctAt_ok rx q
      rcases dget_ok S ry hk ha hl with ⟨h1, h2⟩ | ⟨_, v, h1, h2, _⟩
      · rw [h1] at h
        exact ⟨a, _, rfl, h2, h.end_ S (.bl _)⟩
      · rw [h1] at h
        exact ⟨a, _, rfl, h2, h.end_ S (.bl _)⟩
    · rw [if_neg hk] at h; exact h.elim
theorem op_inD {X : Cx} (hu : X.A.units + 1 < cLine) : OpR X (compareOp .In) (rInD false) := by
  intro pins s σ H y x vy vx Q I ry rx h
  obtain ⟨a, o, rfl, g, q⟩ := h
  obtain rfl : vx = Value.ref a := rx
  exact d_in hu I g ry fun s2 I2 => ⟨.bl o.isSome, H, I2, rfl, q⟩
theorem op_ninD {X : Cx} (hu : X.A.units + 1 < cLine) : OpR X (compareOp .NotIn) (rInD true) := by
  intro pins s σ H y x vy vx Q I ry rx h
  obtain ⟨a, o, rfl, g, q⟩ := h
  obtain rfl : vx = Value.ref a := rx
  exact d_notIn hu I g ry fun s2 I2 => ⟨.bl (!o.isSome), H, I2, rfl, q⟩
def rLenD : List V → Hp → VK → Prop := fun vs H Q => ∃ a vk, vs = [.ref a] ∧ H a = some (.dK vk) ∧ Q (.int vk.length) H
theorem oLenD {K : KZ} : OpN K rLenD bLenD := by
  intro ρ G H us vs Q E S r h
  unfold bLenD at h
  split at h
  · rename_i x
    obtain ⟨v, rfl, rv⟩ := r.one
    cases q : dctAt false x G with
    | none => simp only [q] at h; exact h.elim
    | some kvs =>
      simp only [q] at h
      obtain ⟨l, a, rfl, rfl, ha, hl⟩ := dctAt_ok rv q
      obtain ⟨vk, e, r⟩ := S.dct ha hl
      rw [r.len] at h
      exact ⟨a, vk, rfl, e, h.end_ S (.int _)⟩
  · exact h.elim
theorem call_lenD {X : Cx} : CallR X (.builtin "len") rLenD := by
  intro pins s σ H vs us Q I r h
  obtain ⟨a, vk, rfl, e, q⟩ := h
  obtain ⟨u, rfl, ru⟩ := Vals.one r
  obtain rfl : u = Value.ref a := ru
  exact d_len I (.inl e) fun t s2 I2 => ⟨.int vk.length, H, I2, ⟨t, rfl⟩, q⟩
def rSetD : V → V → V → Hp → (Hp → Prop) → Prop := fun o i v H Q => ∃ a H', o = .ref a ∧ DPut H a i v H' ∧ Q H'
theorem set_dict {X : Cx} (hu : X.A.units + 1 < cLine) : PSet X rSetD := by
  intro pins s σ H o i v ov iv vv Q I ro ri rv h
  obtain ⟨a, H', rfl, g, q⟩ := h
  obtain rfl : ov = Value.ref a := ro
  exact d_setItem hu I g ri rv fun s2 I2 => ⟨_, I2, q⟩
theorem setD_ok {K : KZ} {t : Bool} {ρ : List Addr} {G : Gp} {H : Hp} {o i v : U} {ov iv vv : V} (S : Sim K ρ G H) (ro : RU K ρ H o ov) (ri : RU K ρ H i iv) (rv : RU K ρ H v vv) {Q : Hp → Prop} {G' : Gp} (h : setD t o i v G = .ok () G')
    (q : ∀ H', Stb K H H' → Sim K ρ G' H' → Q H') : rSetD ov iv vv H Q := by
  unfold setD at h
  cases ro with
  | @ref l a ha =>
    simp only at h
    cases e1 : dAt t G[l]? with
    | none => rw [e1] at h; exact nomatch h
    | some kvs =>
      rw [e1] at h
      simp only at h
      by_cases c : isKy t i = true ∧ kvs.length < 16777216
      · rw [if_pos c] at h
        cases h
        have e1 := dAt_is e1
        cases t with
        | false =>
          obtain ⟨k, hk⟩ := isK_uk c.1
          obtain ⟨vk, e, r⟩ := S.dct ha e1
          obtain ⟨S', st⟩ := S.setDct ha e (r.put kfK hk rv)
          have ei := uk_kV ri hk
          subst ei
          exact ⟨a, _, rfl, DPut.k e (by rw [← r.len, line_eq]; exact c.2), q _ st S'⟩
        | true =>
          obtain ⟨k, hk⟩ := isKT_utk c.1
          obtain ⟨vk, e, r⟩ := S.dtp ha e1
          obtain ⟨S', st⟩ := S.setDtp ha e (r.put kfT hk rv)
          obtain ⟨b, rfl, hb⟩ := utk_tup ri hk
          exact ⟨a, _, rfl, DPut.t e hb (by rw [← r.len, line_eq]; exact c.2), q _ st S'⟩
      · rw [if_neg c] at h; exact nomatch h
  | _ => exact nomatch h
theorem nxSubD {t : Bool} {fo fi : Ev → Gp → R U} : NoX (gSubD t fo fi) := fun u env G c fs G' h => by
  obtain ⟨a, G1, _, h⟩ := bindN_nx h
  obtain ⟨b, G2, _, h⟩ := bindN_nx h
  obtain ⟨d, G3, _, h⟩ := bindN_nx h
  exact nomatch h
section
variable {X : Cx} {Z : ZZ X.K} {W : WX} {a b o i e : Expr} {fa fb fo fi : Ev → Gp → R U} {p pos apos cpos : Pos}
theorem fdnew : FE X Z W (.Dict [] [] pos) (eDict0 false) := PEimp pe_dnewK fun σ H Q ⟨ρ, G, env, S, e, h⟩ => fun p hp =>
  h (.ref p) (ρ ++ [p]) (upd H p (.dK [])) ⟨[p], rfl⟩ (stb_new hp) (S.new hp (show RKs uk _ _ _ [] [] from .nil)) (.ref (by rw [List.getElem?_append_right (by rw [S.len]; exact Nat.le_refl _), S.len]; simp))
theorem fdnewT : FE X Z W (.Dict [] [] pos) (eDict0 true) := PEimp pe_dnewT fun σ H Q ⟨ρ, G, env, S, e, h⟩ => fun p hp =>
  h (.ref p) (ρ ++ [p]) (upd H p (.dT [])) ⟨[p], rfl⟩ (stb_new hp) (S.new hp (show RKs utk _ _ _ [] [] from .nil)) (.ref (by rw [List.getElem?_append_right (by rw [S.len]; exact Nat.le_refl _), S.len]; simp))
theorem finD (t : Bool) (hu : X.A.units + 1 < cLine) (ha : FE X Z W a fa) (hb : FE X Z W b fb) (hm : behindInMarks .In b = false := by rfl) : FE X Z W (.Compare a [.In] [b] pos) (eBin (gInD t false) fa fb) := fcmp o2InD (op_inD hu) ha hb hm
theorem fninD (t : Bool) (hu : X.A.units + 1 < cLine) (ha : FE X Z W a fa) (hb : FE X Z W b fb) (hm : behindInMarks .NotIn b = false := by rfl) : FE X Z W (.Compare a [.NotIn] [b] pos) (eBin (gInD t true) fa fb) := fcmp o2InD (op_ninD hu) ha hb hm
theorem tinD (t : Bool) (hu : X.A.units + 1 < cLine) (ha : FE X Z W a fa) (hb : FE X Z W b fb) (hm : behindInMarks .In b = false := by rfl) : FT X Z W (.Compare a [.In] [b] pos) (bVal (eBin (gInD t false) fa fb)) := ft_cmp o2InD (op_inD hu) ha hb hm
theorem tninD (t : Bool) (hu : X.A.units + 1 < cLine) (ha : FE X Z W a fa) (hb : FE X Z W b fb) (hm : behindInMarks .NotIn b = false := by rfl) : FT X Z W (.Compare a [.NotIn] [b] pos) (bVal (eBin (gInD t true) fa fb)) := ft_cmp o2InD (op_ninD hu) ha hb hm
theorem flenD {fs : Ev → Gp → R (List U)} (hm : X.mg "len" = none) (ha : FA X Z W [e] fs) (hg : Gl X "len" := by rfl) (he : starEach [e] X.env = (false, eval e X.env) :: starEach [] X.env := by rfl) (hpl : (backTo pos (starEach [] X.env)).any (·.1) = false := by rfl) : FE X Z W (.Call (.Name "len" p) [e] [] pos) (eCall bLenD fs) :=
  fcallB oLenD call_lenD hg hm (by decide +kernel) ha (by decide) (by decide) he hpl
theorem fidxD (t : Bool) (hu : X.A.units + 1 < cLine) (ho : FE X Z W o fo) (hi : FE X Z W i fi) (hs : NoSl i := by intro _ _; rfl) : FE X Z W (.Subscript o i pos) (eBin (gIdxD t) fo fi) := by
  refine PEimp (pe_dget hu ho hi hs) fun σ H Q ⟨ρ, G, env, S, e, h⟩ => ?_
  refine tG_mono (step S e h) fun v H1 ⟨ρ1, G1, x, p1, s1, S1, e1, r1, h1⟩ => ?_
  refine tG_mono (step S1 e1 h1) fun w H2 ⟨ρ2, G2, y, p2, s2, S2, e2, r2, h2⟩ => ?_
  unfold gIdxD at h2
  cases q : dctAt t x G2 with
  | none => simp only [q] at h2; exact h2.elim
  | some kvs =>
    simp only [q] at h2
    by_cases hk : isKy t y = true
    · rw [if_pos hk] at h2
      obtain ⟨l, a, rfl, rfl, ha, hl⟩ := dctAt_ok (r1.mono p2 s2) q
      rcases dget_ok S2 r2 hk ha hl with ⟨h3, h4⟩ | ⟨z, v, h3, h4, h5⟩
      · rw [h3] at h2; exact h2.elim
      · rw [h3] at h2
        exact ⟨a, v, rfl, h4, h2.end_ S2 h5⟩
    · rw [if_neg hk] at h2; exact h2.elim
theorem fgsubD (t : Bool) (hu : X.A.units + 1 < cLine) (ho : FE X Z W o fo) (hi : FE X Z W i fi) (ha : ∀ v, assign (.Subscript o i pos) X.env v = (do
      let ov ← holding [v] (eval o X.env)
      let iv ← holding [v, ov] (eval i X.env)
      standAt pos
      holding [v, ov, iv] (setItem ov iv v)
      release [v, ov, iv] []) := by intro _; rfl) : FG X Z (.Subscript o i pos) (gSubD t fo fi) := by
  refine PGimp (pg_sub ho hi (set_dict hu) ha) fun v σ H Q ⟨ρ, G, env, u, S, e, r, h⟩ => ?_
  cases q : gSubD t fo fi u env G with
  | bad => rw [q] at h; exact h.elim
  | exc c fs G' => exact absurd q (nxSubD _ _ _ _ _ _)
  | ok env' G' =>
    rw [q] at h
    obtain ⟨a, G1, q1, q⟩ := bindN_ok q
    obtain ⟨b, G2, q2, q⟩ := bindN_ok q
    obtain ⟨d, G3, q3, q⟩ := bindN_ok q
    cases q
    refine tF_ok S e q1 fun ov ρ1 H1 p1 s1 S1 r1 => tF_ok S1 (e.mono p1 s1) q2 fun iv ρ2 H2 p2 s2 S2 r2 => ?_
    exact setD_ok S2 (r1.mono p2 s2) r2 ((r.mono p1 s1).mono p2 s2) q3 fun H3 s3 S3 => h σ ρ2 H3 (p1.trans p2) ((s1.trans s2).trans s3) S3 (((e.mono p1 s1).mono p2 s2).mono pre_refl s3)
theorem fdpop (ho : FE X Z W o fo) (hi : FE X Z W i fi)
    (base : attributeBase o "pop" X.env (eval o X.env) = eval o X.env := by rfl)
    (few : ((backTo cpos (starEach [i] X.env)).all (fun x => !x.1) && (backToKw cpos (keywordEach [] X.env)).all (fun x => x.1.isSome)
    && decide (([i] : List Expr).length + ([] : List Keyword).length + (if ([] : List Keyword).isEmpty then 0 else 1) < 30)) = true := by rfl)
    (line : (apos.endLine == cpos.line) = true := by rfl)
    (trees : backTo cpos (starEach [i] X.env) = [(false, eval i X.env)] := by rfl) : FE X Z W (.Call (.Attribute o "pop" apos) [i] [] cpos) (ePopD fo fi) := by
  refine PEimp (pe_dpop1 ho hi ⟨base, few, line, trees⟩) fun σ H Q ⟨ρ, G, env, S, e, h⟩ => ?_
  refine tG_mono (step S e h) fun v H1 ⟨ρ1, G1, x, p1, s1, S1, e1, r1, h1⟩ => ?_
  by_cases hd : isDct x G1 = true
  · rw [if_pos hd] at h1
    obtain ⟨kvs, hd⟩ := Option.isSome_iff_exists.mp hd
    obtain ⟨l, a, rfl, rfl, ha, hl⟩ := dctAt_ok r1 hd
    obtain ⟨vk, e2, r2⟩ := S1.dct ha hl
    refine ⟨a, rfl, .inl ⟨vk, .inl e2⟩, ?_⟩
    refine tG_mono (step S1 e1 h1) fun w H2 ⟨ρ2, G2, y, p2, s2, S2, e3, r3, h2⟩ => ?_
    have ha2 := pre_get p2 ha
    unfold popD at h2
    simp only at h2
    cases q : G2[l]? with
    | none => rw [q] at h2; exact h2.elim
    | some ob =>
      rw [q] at h2
      cases ob with
      | dct ks =>
        simp only at h2
        by_cases hk : isK y = true
        · rw [if_pos hk] at h2
          obtain ⟨k, hk⟩ := isK_uk hk
          obtain ⟨vk2, e4, r4⟩ := S2.dct ha2 q
          rcases r4.get kfK hk with ⟨h3, h4⟩ | ⟨z, v, h3, h4, h5⟩
          · rw [h3] at h2; exact h2.elim
          · rw [h3] at h2
            obtain ⟨S', st⟩ := S2.setDct ha2 e4 (r4.drop kfK hk)
            exact ⟨vk2, k, v, e4, uk_kV r3 hk, h4, h2 v ρ2 _ pre_refl st S' (h5.mono pre_refl st)⟩
        · rw [if_neg hk] at h2; exact h2.elim
      | _ => exact h2.elim
  · rw [if_neg hd] at h1; exact h1.elim
end
/-! list.reverse, list.extend -/
def mReverse (x : U) (us : List U) (G : Gp) : R U := match x, us with
  | .ref l, [] => match G[l]? with
    | some (.lst xs) => .ok .non (G.set l (.lst xs.reverse))
    | _ => .bad
  | _, _ => .bad
theorem mReverse_ref {l : Nat} {xs : List U} {G : Gp} (h : G[l]? = some (.lst xs)) : mReverse (.ref l) [] G = .ok .non (G.set l (.lst xs.reverse)) := by
  unfold mReverse
  simp only [h]
def mExtend (x : U) (us : List U) (G : Gp) : R U := match x, us with
  | .ref l, [.ref b] => match G[l]?, G[b]? with
    | some (.lst xs), some (.lst ys) => if xs.length + ys.length ≤ 16777216 then .ok .non (G.set l (.lst (xs ++ ys))) else .bad
    | _, _ => .bad
  | _, _ => .bad
theorem mExtend_ref {l b : Nat} {xs ys : List U} {G : Gp} (h : G[l]? = some (.lst xs)) (h2 : G[b]? = some (.lst ys)) (hl : xs.length + ys.length ≤ 16777216) : mExtend (.ref l) [.ref b] G = .ok .non (G.set l (.lst (xs ++ ys))) := by
  unfold mExtend
  simp only [h, h2, if_pos hl]
section
variable {K : KZ}
theorem RUs.rev {ρ : List Addr} {H : Hp} : ∀ {us : List U} {vs : List V}, RUs K ρ H us vs → RUs K ρ H us.reverse vs.reverse
  | _, _, .nil => .nil
  | _, _, .cons h t => by
    rw [List.reverse_cons, List.reverse_cons]
    exact (RUs.rev t).append (.cons h .nil)
theorem oReverse : OpM K rReverse mReverse := by
  intro ρ G H x v us vs Q E S rx rs h
  unfold mReverse at h
  split at h
  · rename_i l
    cases rx with
    | @ref _ a ha =>
      cases rs
      cases q : G[l]? with
      | none => rw [q] at h; exact h.elim
      | some o =>
        rw [q] at h
        cases o with
        | lst xs =>
          obtain ⟨ws, e, r⟩ := S.list ha q
          exact ⟨a, ws, rfl, rfl, e, updEnd (xs := xs) S ha e r.rev .non h⟩
        | _ => exact h.elim
  · exact h.elim
theorem oExtend : OpM K rExtend mExtend := by
  intro ρ G H x v us vs Q E S rx rs h
  unfold mExtend at h
  split at h
  · rename_i l b
    cases rx with
    | @ref _ a ha =>
      obtain ⟨w, rfl, rw'⟩ := rs.one
      cases rw' with
      | @ref _ a2 ha2 =>
        cases q : G[l]? with
        | none => rw [q] at h; exact h.elim
        | some o =>
          cases q2 : G[b]? with
          | none => rw [q, q2] at h; cases o <;> exact h.elim
          | some o2 =>
            rw [q, q2] at h
            cases o with
            | lst xs =>
              cases o2 with
              | lst ys =>
                simp only at h
                obtain ⟨ws, e, r⟩ := S.list ha q
                obtain ⟨zs, e2, r2⟩ := S.list ha2 q2
                by_cases c : xs.length + ys.length ≤ 16777216
                · rw [if_pos c] at h
                  exact ⟨a, a2, ws, zs, rfl, rfl, e, e2, by rw [← r.len, ← r2.len, line_eq]; exact c, updEnd (xs := xs) S ha e (r.append r2) .non h⟩
                · rw [if_neg c] at h; exact h.elim
              | _ => exact h.elim
            | _ => cases o2 <;> exact h.elim
  · exact h.elim
theorem mtReverse {X : Cx} : MtR X "list.reverse" rReverse := mt_reverse
theorem mtExtend {X : Cx} : MtR X "list.extend" rExtend := mt_extend
end
/-! math.comb -/
def bComb (us : List U) (G : Gp) : R U := match us with
  | [.int a, .int b] => if 0 ≤ a ∧ 0 ≤ b ∧ a ≤ 18000 then .ok (.int (PySem.W.mcComb a b)) G else .bad
  | _ => .bad
theorem bComb_ii {a b : Int} {G : Gp} (h1 : 0 ≤ a) (h2 : 0 ≤ b) (h3 : a ≤ 18000) : bComb [.int a, .int b] G = .ok (.int (PySem.W.mcComb a b)) G := if_pos ⟨h1, h2, h3⟩
def rComb : List V → Hp → VK → Prop := fun vs H Q => ∃ a b : Int, vs = [.int a, .int b] ∧ 0 ≤ a ∧ 0 ≤ b ∧ a ≤ 18000 ∧ Q (.int (PySem.W.mcComb a b)) H
theorem oComb {K : KZ} : OpN K rComb bComb := by
  intro ρ G H us vs Q E S r h
  unfold bComb at h
  split at h
  · rename_i a b
    by_cases c : 0 ≤ a ∧ 0 ≤ b ∧ a ≤ 18000
    · rw [if_pos c] at h
      obtain ⟨v, w, rfl, r1, r2⟩ := r.two
      cases r1
      cases r2
      exact ⟨a, b, rfl, c.1, c.2.1, c.2.2, h.end_ S (.int _)⟩
    · rw [if_neg c] at h; exact h.elim
  · exact h.elim
theorem cr_comb {X : Cx} : CallR X (.builtin "math.comb") rComb := by
  intro pins s σ H vs us Q I r h
  obtain ⟨a, b, rfl, h1, h2, h3, q⟩ := h
  obtain ⟨t, u, rfl⟩ := Vals.int2 r
  have e64 : (2 : Int) ^ 64 = 18446744073709551616 := by decide
  exact PySem.W.mc_comb h1 h2 (by rw [e64]; omega) (.inr h3) fun _ => ⟨.int _, H, I.tok _, ⟨_, rfl⟩, q⟩
section
variable {X : Cx} {Z : ZZ X.K} {W : WX} {x : Str} {e : Expr} {es : List Expr} {fs : Ev → Gp → R (List U)} {p pos : Pos}
theorem fcomb (hm : X.mg x = some (.builtin "math.comb")) (ha : FA X Z W (e :: es) fs) (hg : Gl X x := by rfl) (hdb : (x == ("__debug__" : Str)) = false := by decide)
    (he : starEach (e :: es) X.env = (false, eval e X.env) :: starEach es X.env := by rfl) (hpl : (backTo pos (starEach es X.env)).any (·.1) = false := by rfl) : FE X Z W (.Call (.Name x p) (e :: es) [] pos) (eCall bComb fs) :=
  PEimp (pe_callBfun cr_comb hg hm ha hdb he hpl) (tCB_of oComb)
end
/-! a module's tuple of texts -/
def TupW (K : PySem.W.Frag) (a : Addr) (zs : List Str) : Prop := ∃ (o : Obj) (its : Array Value) (n : Nat), K.lookup a = some o ∧ o.cls = .type "tuple" ∧ o.data = .seq its n ∧ its.size ≤ sizeLine ∧ Vals (zs.map V.str) its.toList
def tupWB (K : PySem.W.Frag) (x : Str) (zs : List Str) : Bool := match K.lookup (He.ga K x) with
  | some ⟨.type "tuple", _, .seq its _, _⟩ => decide (its.size ≤ 1000) && decide (its.toList.map (fun v => match v with | .str z _ => some z | _ => none) = zs.map some)
  | _ => false
theorem strs_vals : ∀ (us : List Value) (zs : List Str), us.map (fun v => match v with | .str z _ => some z | _ => none) = zs.map some → Vals (zs.map V.str) us
  | [], [], _ => .nil
  | u :: us, z :: zs, h => by
    rw [List.map_cons, List.map_cons] at h
    obtain ⟨h1, h2⟩ := List.cons.inj h
    refine .cons ?_ (strs_vals us zs h2)
    split at h1
    · cases h1; exact ⟨_, rfl⟩
    · exact nomatch h1
  | [], _ :: _, h => by simp at h
  | _ :: _, [], h => by simp at h
theorem tupWB_ok {K : PySem.W.Frag} {x : Str} {zs : List Str} (h : tupWB K x zs = true) : TupW K (He.ga K x) zs := by
  unfold tupWB at h
  split at h
  · rename_i d its n sl q
    obtain ⟨h1, h2⟩ := Bool.and_eq_true_iff.mp h
    exact ⟨_, its, n, q, rfl, rfl, by rw [line_eq]; have := of_decide_eq_true h1; omega, strs_vals _ _ (of_decide_eq_true h2)⟩
  · exact nomatch h
def bfnB (K : PySem.W.Frag) (x : Str) (id : String) : Bool := He.eqO (PySem.W.nsIn K mainGlobals x) (some (some (.builtin id)))
theorem bfn_ok {K : PySem.W.Frag} {h : Heap} {mg : Str → Option Value} (X : K.In h) (G : h.Ns mainGlobals mg) {x : Str} {id : String} (c : bfnB K x id = true) : mg x = some (.builtin id) := PySem.W.mg_of X G (He.eqO_ok c)
section
variable {X : Cx} {Z : ZZ X.K} {W : WX} {pos : Pos}
theorem fglobT {x : Str} {zs : List Str} (hg : Gl X x) (hm : X.mg x = some (.ref (He.ga X.K x))) (ht : TupW X.K (He.ga X.K x) zs) (hd : (x == ("__debug__" : Str)) = false := by decide) : FE X Z W (.Name x pos) (eC (.wt (zs.map .str))) := by
  refine PEimp (pe_glob (v := .ref (He.ga X.K x)) hg hm rfl hd) (tC_of fun ρ H => .wt ht ?_)
  induction zs with
  | nil => exact .nil
  | cons z r ih => exact .cons (.str z) (by
      clear ih ht
      induction r with
      | nil => exact .nil
      | cons z r ih => exact .cons (.str z) ih)
end
end FL

set_option Elab.async false
set_option linter.all false
set_option maxRecDepth 100000
set_option maxHeartbeats 4000000
set_option autoImplicit false
/-! &, |, <<, >> of ints -/
namespace FL
open PySem PySem.Spec L2
def gBand (x y : U) (G : Gp) : R U := match x, y with
  | .int i, .int j => .ok (.int (Builtin.bitAnd i j)) G
  | _, _ => .bad
def gBor (x y : U) (G : Gp) : R U := match x, y with
  | .int i, .int j => .ok (.int (Builtin.bitOr i j)) G
  | _, _ => .bad
def gShr (x y : U) (G : Gp) : R U := match x, y with
  | .int i, .int j => if 0 ≤ j then .ok (.int (i / 2 ^ j.toNat)) G else .bad
  | _, _ => .bad
def gShl (x y : U) (G : Gp) : R U := match x, y with
  | .int i, .int j => if 0 ≤ j ∧ j ≤ 1000000 ∧ i.natAbs < 2 ^ 64 then .ok (.int (i * 2 ^ j.toNat)) G else .bad
  | _, _ => .bad
@[simp] theorem gBand_ (i j : Int) (G : Gp) : gBand (.int i) (.int j) G = .ok (.int (Builtin.bitAnd i j)) G := id rfl
@[simp] theorem gBor_ (i j : Int) (G : Gp) : gBor (.int i) (.int j) G = .ok (.int (Builtin.bitOr i j)) G := id rfl
theorem gShr_ {i j : Int} {G : Gp} (h : 0 ≤ j) : gShr (.int i) (.int j) G = .ok (.int (i / 2 ^ j.toNat)) G := if_pos h
theorem gShl_ {i j : Int} {G : Gp} (h : 0 ≤ j) (h2 : j ≤ 1000000) (h3 : i.natAbs < 2 ^ 64) : gShl (.int i) (.int j) G = .ok (.int (i * 2 ^ j.toNat)) G := if_pos ⟨h, h2, h3⟩
section
variable {K : KZ}
theorem o2Band : Op2 K (rI0 fun i j => .int (Builtin.bitAnd i j)) gBand := by
  intro ρ G H x y v w Q E S rx ry h
  cases rx with
  | int a =>
    cases ry with
    | int b => exact ⟨a, b, rfl, rfl, h.end_ S (.int _)⟩
    | _ => exact h.elim
  | _ => cases ry <;> exact h.elim
theorem o2Bor : Op2 K (rI0 fun i j => .int (Builtin.bitOr i j)) gBor := by
  intro ρ G H x y v w Q E S rx ry h
  cases rx with
  | int a =>
    cases ry with
    | int b => exact ⟨a, b, rfl, rfl, h.end_ S (.int _)⟩
    | _ => exact h.elim
  | _ => cases ry <;> exact h.elim
theorem o2Shr : Op2 K (rI (fun _ j => 0 ≤ j) fun i j => .int (i / 2 ^ j.toNat)) gShr := by
  intro ρ G H x y v w Q E S rx ry h
  cases rx with
  | int a =>
    cases ry with
    | int b =>
      have h : Post K (RU K) ρ H (if 0 ≤ b then .ok (.int (a / 2 ^ b.toNat)) G else .bad) Q E := h
      by_cases c : 0 ≤ b
      · rw [if_pos c] at h; exact ⟨a, b, rfl, rfl, c, h.end_ S (.int _)⟩
      · rw [if_neg c] at h; exact h.elim
    | _ => exact h.elim
  | _ => cases ry <;> exact h.elim
theorem o2Shl : Op2 K (rI CPow fun i j => .int (i * 2 ^ j.toNat)) gShl := by
  intro ρ G H x y v w Q E S rx ry h
  cases rx with
  | int a =>
    cases ry with
    | int b =>
      have h : Post K (RU K) ρ H (if 0 ≤ b ∧ b ≤ 1000000 ∧ a.natAbs < 2 ^ 64 then .ok (.int (a * 2 ^ b.toNat)) G else .bad) Q E := h
      by_cases c : 0 ≤ b ∧ b ≤ 1000000 ∧ a.natAbs < 2 ^ 64
      · rw [if_pos c] at h; exact ⟨a, b, rfl, rfl, c, h.end_ S (.int _)⟩
      · rw [if_neg c] at h; exact h.elim
    | _ => exact h.elim
  | _ => cases ry <;> exact h.elim
end
section
variable {X : Cx} {Z : ZZ X.K} {W : WX} {a b : Expr} {fa fb : Ev → Gp → R U} {pos : Pos}
theorem fband (ha : FE X Z W a fa) (hb : FE X Z W b fb) : FE X Z W (.BinOp a .BitAnd b pos) (eBin gBand fa fb) := fop o2Band op_and ha hb
theorem fbor (ha : FE X Z W a fa) (hb : FE X Z W b fb) : FE X Z W (.BinOp a .BitOr b pos) (eBin gBor fa fb) := fop o2Bor op_or ha hb
theorem fshr (ha : FE X Z W a fa) (hb : FE X Z W b fb) : FE X Z W (.BinOp a .RShift b pos) (eBin gShr fa fb) := fop o2Shr op_shr ha hb
theorem fshl (ha : FE X Z W a fa) (hb : FE X Z W b fb) : FE X Z W (.BinOp a .LShift b pos) (eBin gShl fa fb) := fop o2Shl op_shl ha hb
end
end FL

set_option Elab.async false
set_option linter.all false
set_option maxRecDepth 100000
set_option maxHeartbeats 4000000
set_option autoImplicit false
/-! instances of the program's own classes: make, attributes, methods -/
namespace L2
open PySem PySem.Spec PyProof.Rows
section
variable {X : Cx} {CX : CXT} {k : Nat} {f C : Addr} {fd : FuncData} {ps : List Str} {sp : Sp} {dvs : List V} {ds : List Value} {E : St → XK} {x m : Str} {p pos apos : Pos} {e o : Expr} {es : List Expr} {ta : TE} {t : TA}
def tMethSD (C : Addr) (m : Str) (sp : Sp) (dvs : List V) (E : St → XK) (ta : TE) (t : TA) : TE := fun σ H Q => ta σ H fun x H1 => ∃ a dx fs, x = .ref a ∧ H1 a = some (.ins C dx fs) ∧ fs.lookup m = none ∧
  t σ H1 fun vs H2 => sp (x :: (vs ++ dvs)) H2 Q (E σ)
theorem pe_methSD {pl : Sem Bool} (he : PE X o ta) (c : Cls X.K C) (hm : Meth X.K C m f) (F : FnOk X.prog X.w X.K X.mg X.base CX k f fd ps sp) (hr : Room k X.A) (hb : Binds X.K fd ps ds) (hd : Vals dvs ds) (hx : ∀ σ, PassesAt CX X σ (E σ)) (ha : PA X (e :: es) t)
    (hst : starEach (e :: es) X.env = (false, eval e X.env) :: starEach es X.env := by rfl) (hpl : (backTo pos (starEach es X.env)).any (·.1) = false := by rfl)
    (ht : eval (.Call (.Attribute o m apos) (e :: es) [] pos) X.env = (do
      let ov ← eval o X.env
      standAt apos.atName
      let (f, first) ← holding [ov] (getMethod ov m pl)
      callWith pos f first (backTo pos (starEach (e :: es) X.env)) (backToKw pos (keywordEach [] X.env))) := by rfl) :
    PE X (.Call (.Attribute o m apos) (e :: es) [] pos) (tMethSD C m sp dvs E ta t) := by
  refine ⟨fun pins s σ H Q I h => ?_⟩
  refine PySem.W.methodCall_KW (pl := pl) (thn (he.run pins s σ H _ I h) fun u s1 ⟨x, H1, I1, rx, a, dx, fs, ex, ea, l, q⟩ => ?_) ht
  subst ex
  obtain rfl : u = Value.ref a := rx
  refine getmeth_ok I1 ea c hm l ?_
  refine PySem.W.callWith_K (first := [.ref a]) (h₀ := X.base) I.ok.mod.kin hm.kp (thn (ha.run pos pins s1 σ H1 _ I1 q) fun us s2 ⟨vs, H2, I2, r, q2⟩ => ⟨I2.kIn, ?_⟩) hst hpl
  exact run_fnSD (us := .ref a :: us) (vs := .ref a :: vs) F hr hb hd (hx σ) I2 (.cons rfl r) q2
theorem pe_meth0SD {pl : Sem Bool} (he : PE X o ta) (c : Cls X.K C) (hm : Meth X.K C m f) (F : FnOk X.prog X.w X.K X.mg X.base CX k f fd ps sp) (hr : Room k X.A) (hb : Binds X.K fd ps ds) (hd : Vals dvs ds) (hx : ∀ σ, PassesAt CX X σ (E σ))
    (ht : eval (.Call (.Attribute o m apos) [] [] pos) X.env = (do
      let ov ← eval o X.env
      standAt apos.atName
      let (f, first) ← holding [ov] (getMethod ov m pl)
      callWith pos f first (backTo pos (starEach [] X.env)) (backToKw pos (keywordEach [] X.env))) := by rfl) :
    PE X (.Call (.Attribute o m apos) [] [] pos) (tMethSD C m sp dvs E ta tNil) := by
  refine ⟨fun pins s σ H Q I h => ?_⟩
  refine PySem.W.methodCall_KW (pl := pl) (thn (he.run pins s σ H _ I h) fun u s1 ⟨x, H1, I1, rx, a, dx, fs, ex, ea, l, q⟩ => ?_) ht
  subst ex
  obtain rfl : u = Value.ref a := rx
  refine getmeth_ok I1 ea c hm l ?_
  exact PySem.W.callWith_K0 (first := [.ref a]) I1.kIn hm.kp (run_fnSD (us := [.ref a]) (vs := [.ref a]) F hr hb hd (hx σ) I1 (.cons rfl .nil) q)
def tMakeSD (C : Addr) (sp : Sp) (dvs : List V) (E : St → XK) (t : TA) : TE := fun σ H Q => t σ H fun vs H1 => ∀ x dx, H1 x = none → H1 dx = none → dx ≠ x →
  sp (.ref x :: (vs ++ dvs)) (upd (upd H1 dx (.own x)) x (.ins C dx [])) (fun v H2 => v = .non ∧ Q (.ref x) H2) (E σ)
theorem run_makeSD {pins : List (Addr × Obj)} {σ : St} {H : Hp} {s : Shared} {Q : VK} {us : List Value} {vs : List V} (M : Mk X.K C f) (F : FnOk X.prog X.w X.K X.mg X.base CX k f fd ps sp) (hr : Room (k + 1) X.A) (hb : Binds X.K fd ps ds) (hd : Vals dvs ds)
    (hx : PassesAt CX X σ (E σ)) (I : Inv X pins σ H s) (r : Vals vs us)
    (h : ∀ x dx, H x = none → H dx = none → dx ≠ x → sp (.ref x :: (vs ++ dvs)) (upd (upd H dx (.own x)) x (.ins C dx [])) (fun v H2 => v = .non ∧ Q (.ref x) H2) (E σ)) :
    wpAny (model X.prog X.w) X.A (call (.ref C) us) (EP X pins σ Q) X.xe s := by
  have hq := h (s.heap.objs.size + 1) s.heap.objs.size (I.hok.fresh (Nat.le_succ _)) (I.hok.fresh (Nat.le_refl _)) (Nat.ne_of_lt (Nat.lt_succ_self _))
  have I2 := Inv.made (C := C) I
  have r2 : Vals (V.ref (s.heap.objs.size + 1) :: (vs ++ dvs)) (Value.ref (s.heap.objs.size + 1) :: (us ++ ds)) := .cons rfl (r.append hd)
  have hl : (Value.ref (s.heap.objs.size + 1) :: us ++ ds).length = ps.length := by
    have e := r2.length
    rw [F.len _ _ _ _ hq] at e
    exact e.symm
  refine wpAny_call (make_map (f := f) I.kIn M.makes M.init (beq_iff_eq.mp M.fn) (codeAny_mono (F.run _ X.stack _ _ ⟨Value.ref (s.heap.objs.size + 1) :: us, []⟩ (Value.ref (s.heap.objs.size + 1) :: (us ++ ds)) _ _ (E σ) (hr.make C us [])
    (I2.env0.make C us []) (hb _ (Value.ref (s.heap.objs.size + 1) :: us) I2.kIn hl) r2 hq) fun r s' hq' => ?_))
  cases r with
  | error e => exact hx pins _ _ e s' I2 hq'
  | ok fl =>
    cases fl with
    | ret u =>
      obtain ⟨v, H', I3, rv, ev, q3⟩ := I2.after hq'
      subst ev
      exact ⟨rv, ⟨V.ref (s.heap.objs.size + 1), H', I3, rfl, q3⟩⟩
    | next => exact False.elim hq'
    | brk => exact False.elim hq'
    | cont => exact False.elim hq'
theorem pe_makeSD (M : Mk X.K C f) (F : FnOk X.prog X.w X.K X.mg X.base CX k f fd ps sp) (hr : Room (k + 1) X.A) (hg : Gl X x) (hm : X.mg x = some (.ref C)) (hb : Binds X.K fd ps ds) (hd : Vals dvs ds) (hx : ∀ σ, PassesAt CX X σ (E σ))
    (ha : PA X (e :: es) t) (hdb : (x == ("__debug__" : Str)) = false := by decide) (he : starEach (e :: es) X.env = (false, eval e X.env) :: starEach es X.env := by rfl) (hpl : (backTo pos (starEach es X.env)).any (·.1) = false := by rfl) :
    PE X (.Call (.Name x p) (e :: es) [] pos) (tMakeSD C sp dvs E t) := by
  refine ⟨fun pins s σ H Q I h => ?_⟩
  refine wpAny_Call_Name_kw (ld_glob I hg hm ?_ hdb)
  refine PySem.W.callWith_K (h₀ := X.base) I.ok.mod.kin M.kp (thn (ha.run pos pins s σ H _ I h) fun us s1 ⟨vs, H1, I1, r, q⟩ => ⟨I1.kIn, ?_⟩) he hpl
  exact run_makeSD M F hr hb hd (hx σ) I1 r q
end
end L2
namespace FL
open PySem PySem.Spec L2
/-! ### attributes -/
def gFld (cs : List Str) (f : Str) (u : U) (G : Gp) : R U := match u with
  | .ref l => match G[l]? with
    | some (.ins c fs) => if cs.contains c = true then (match fs.lookup f with
      | some v => .ok v G
      | none => .bad) else .bad
    | _ => .bad
  | _ => .bad
def insC (G : Gp) (u : U) : Option Str := match u with
  | .ref l => match G[l]? with
    | some (.ins c _) => some c
    | _ => none
  | _ => none
def putU (f : Str) (v : U) : List (Str × U) → List (Str × U)
  | [] => [(f, v)]
  | (g, x) :: r => if g = f then (g, v) :: r else (g, x) :: putU f v r
theorem putU_len (f : Str) (v : U) : ∀ fs, (putU f v fs).length ≤ fs.length + 1
  | [] => by simp [putU]
  | (g, x) :: r => by
    unfold putU
    split
    · simp
    · have := putU_len f v r; simp; omega
theorem putU_rel {K : KZ} {ρ : List Addr} {H : Hp} {f : Str} {u : U} {v : V} (r : RU K ρ H u v) : ∀ {fs : List (Str × U)} {vfs : List (Str × V)}, RFs K ρ H fs vfs → RFs K ρ H (putU f u fs) (putF f v vfs)
  | [], [], _ => ⟨rfl, .cons r .nil⟩
  | [], _ :: _, h => by have := h.1; simp at this
  | _ :: _, [], h => by have := h.1; simp at this
  | (g, x) :: fs, (g', y) :: vfs, h => by
    obtain ⟨h1, h2⟩ := h
    simp only [List.map_cons, List.cons.injEq] at h1 h2
    obtain ⟨rfl, h1⟩ := h1
    cases h2 with
    | cons hx ht =>
      unfold putU putF
      by_cases hg : g = f
      · rw [if_pos hg, if_pos hg]
        exact ⟨by simp only [List.map_cons, h1], .cons r ht⟩
      · rw [if_neg hg, if_neg hg]
        obtain ⟨q1, q2⟩ := putU_rel r (fs := fs) (vfs := vfs) ⟨h1, ht⟩
        exact ⟨by simp only [List.map_cons, q1], .cons hx q2⟩
theorem Sim.ins {K : KZ} {ρ : List Addr} {G : Gp} {H : Hp} (S : Sim K ρ G H) {l : Nat} {a : Addr} {c : Str} {fs : List (Str × U)} (ha : ρ[l]? = some a) (h : G[l]? = some (.ins c fs)) : ∃ dx vfs, H a = some (.ins (He.ga K.K c) dx vfs) ∧ RFs K ρ H fs vfs := by
  obtain ⟨ho, e, r⟩ := S.ob l _ a h ha
  cases ho with
  | ins C dx vfs => obtain ⟨rfl, r⟩ := r; exact ⟨dx, vfs, e, r⟩
  | _ => exact r.elim
/-- what the written part says of the classes whose instances bear the name f -/
def ClF (K : PySem.W.Frag) (cs : List Str) (f : Str) : Prop := ∀ c ∈ cs, Cls K (He.ga K c) ∧ NoAttr K (He.ga K c) f
theorem lookup_none_rel {K : KZ} {ρ : List Addr} {H : Hp} {f : Str} : ∀ {fs : List (Str × U)} {vfs : List (Str × V)}, RFs K ρ H fs vfs → fs.lookup f = none → vfs.lookup f = none
  | [], [], _, _ => rfl
  | [], _ :: _, h, _ => by have := h.1; simp at this
  | _ :: _, [], h, _ => by have := h.1; simp at this
  | (g, x) :: fs, (g', y) :: vfs, h, hl => by
    obtain ⟨h1, h2⟩ := h
    simp only [List.map_cons, List.cons.injEq] at h1 h2
    obtain ⟨rfl, h1⟩ := h1
    cases h2 with
    | cons hx ht =>
      rw [List.lookup_cons] at hl ⊢
      cases hg : (f == g) with
      | true => rw [hg] at hl; exact nomatch hl
      | false => rw [hg] at hl; exact lookup_none_rel (fs := fs) (vfs := vfs) ⟨h1, ht⟩ hl
def sPut (cs : List Str) (f : Str) (fv fo : Ev → Gp → R U) : Ev → Gp → SR := fun env G => (fv env G).andThen env fun y G1 => (fo env G1).andThen env fun o G2 => match o with
  | .ref l => match G2[l]? with
    | some (.ins c fs) => if cs.contains c = true ∧ fs.length < 1000 then .nx env (G2.set l (.ins c (putU f y fs))) else .bad
    | _ => .bad
  | _ => .bad
def putIf (cs : List Str) (f : Str) (z o : U) (G1 G3 : Gp) (env : Ev) : SR := match o with
  | .ref l => match G3[l]? with
    | some (.ins c fs) => if cs.contains c = true ∧ fs.length < 1000 ∧ insC G1 o = some c then .nx env (G3.set l (.ins c (putU f z fs))) else .bad
    | _ => .bad
  | _ => .bad
def sPutAug (cs : List Str) (f : Str) (g : U → U → Gp → R U) (fo fv : Ev → Gp → R U) : Ev → Gp → SR := fun env G => (fo env G).andThen env fun o G1 => (gFld cs f o G1).andThen env fun x G1 => (fv env G1).andThen env fun y G2 => (g x y G2).andThen env fun z G3 => putIf cs f z o G1 G3 env
section
variable {X : Cx} {Z : ZZ X.K} {W : WX} {e o value : Expr} {fa fo fv : Ev → Gp → R U} {pos pos' tpos : Pos} {cs : List Str} {f : Str}
theorem gFld_ok {K : KZ} {ρ : List Addr} {G : Gp} {H : Hp} {u v : U} {w : V} (S : Sim K ρ G H) (r : RU K ρ H u w) (cf : ClF K.K cs f) (h : gFld cs f u G = .ok v G) :
    ∃ a C dx vfs y, w = .ref a ∧ H a = some (.ins C dx vfs) ∧ Cls K.K C ∧ NoAttr K.K C f ∧ vfs.lookup f = some y ∧ RU K ρ H v y ∧ ∀ c, insC G u = some c → C = He.ga K.K c := by
  unfold gFld at h
  cases r with
  | @ref l a ha =>
    simp only at h
    cases q : G[l]? with
    | none => rw [q] at h; exact nomatch h
    | some ob =>
      rw [q] at h
      cases ob with
      | ins c fs =>
        simp only at h
        by_cases hc : cs.contains c = true
        · rw [if_pos hc] at h
          cases q2 : fs.lookup f with
          | none => rw [q2] at h; exact nomatch h
          | some z =>
            rw [q2] at h
            cases h
            obtain ⟨dx, vfs, e1, rf⟩ := S.ins ha q
            obtain ⟨y, e2, ry⟩ := lookup_rel rf q2
            obtain ⟨c1, c2⟩ := cf c (List.contains_iff_mem.mp hc)
            refine ⟨a, _, dx, vfs, y, rfl, e1, c1, c2, e2, ry, fun c' hc' => ?_⟩
            unfold insC at hc'
            simp only [q] at hc'
            cases hc'
            rfl
        · rw [if_neg hc] at h; exact nomatch h
      | _ => exact nomatch h
  | _ => exact nomatch h
theorem gFld_G {u : U} {G : Gp} : (∃ v, gFld cs f u G = .ok v G) ∨ gFld cs f u G = .bad := by
  unfold gFld
  split
  · split
    · split
      · split
        · exact .inl ⟨_, rfl⟩
        · exact .inr rfl
      · exact .inr rfl
    · exact .inr rfl
  · exact .inr rfl
theorem ffld (cf : ClF X.K cs f) (he : FE X Z W e fa) (hb : attributeBase e f X.env (eval e X.env) = eval e X.env := by rfl) : FE X Z W (.Attribute e f pos) (eUn (gFld cs f) fa) := by
  refine PEimp (pe_fld he hb) fun σ H Q ⟨ρ, G, env, S, e, h⟩ => ?_
  refine tG_mono (step S e h) fun v H1 ⟨ρ1, G1, x, p1, s1, S1, e1, r1, h1⟩ => ?_
  rcases gFld_G (cs := cs) (f := f) (u := x) (G := G1) with ⟨y, q⟩ | q
  · obtain ⟨a, C, dx, vfs, w, rfl, e2, c1, c2, e3, ry, _⟩ := gFld_ok S1 r1 cf q
    rw [q] at h1
    exact ⟨a, C, dx, vfs, w, rfl, e2, c1, c2, e3, h1.end_ S1 ry⟩
  · rw [q] at h1; exact h1.elim
theorem setIns {K : KZ} {ρ : List Addr} {G : Gp} {H : Hp} {l : Nat} {a C dx : Addr} {c : Str} {fs : List (Str × U)} {vfs vfs' : List (Str × V)} (S : Sim K ρ G H) (ha : ρ[l]? = some a) (e : H a = some (.ins (He.ga K.K c) dx vfs)) (r : RFs K ρ H fs vfs') :
    Sim K ρ (G.set l (.ins c fs)) (upd H a (.ins (He.ga K.K c) dx vfs')) ∧ Stb K H (upd H a (.ins (He.ga K.K c) dx vfs')) := by
  have st : Stb K H (upd H a (.ins (He.ga K.K c) dx vfs')) := stb_write e (fun _ h => nomatch h) (fun _ _ h => nomatch h) (fun _ h => nomatch h)
  exact ⟨S.write ha e (fun _ h => nomatch h) (fun _ _ h => nomatch h) (fun _ h => nomatch h) ⟨rfl, r.mono pre_refl st⟩, st⟩
theorem fput (cf : ClF X.K cs f) (ho : FE X Z W o fo) (hv : FE X Z W value fv) (hs : swapsWith value (some (.Attribute o f pos')) pos.line X.env = pure false := by rfl) : FS X Z W (.Assign [.Attribute o f pos'] value pos) (sPut cs f fv fo) := by
  refine PSimp (ps_fld ho hv hs) fun D σ H ⟨ρ, G, env, S, e, h⟩ => ?_
  refine tG_mono (stepS S e h) fun y H1 ⟨ρ1, G1, u, p1, s1, S1, e1, r1, h1⟩ => ?_
  refine tG_mono (stepS S1 e1 h1) fun x H2 ⟨ρ2, G2, w, p2, s2, S2, e2, r2, h2⟩ => ?_
  cases r2 with
  | @ref l a ha =>
    simp only at h2
    cases q : G2[l]? with
    | none => rw [q] at h2; exact h2.elim
    | some ob =>
      rw [q] at h2
      cases ob with
      | ins c fs =>
        simp only at h2
        by_cases hc : cs.contains c = true ∧ fs.length < 1000
        · rw [if_pos hc] at h2
          obtain ⟨dx, vfs, e3, rf⟩ := S2.ins ha q
          obtain ⟨c1, c2⟩ := cf c (List.contains_iff_mem.mp hc.1)
          have r1' := r1.mono p2 s2
          obtain ⟨S3, s3⟩ := setIns (C := a) S2 ha e3 (putU_rel (f := f) r1' rf)
          have hl : vfs.length = fs.length := by
            have := congrArg List.length rf.1
            simpa using this.symm
          exact ⟨a, _, dx, vfs, rfl, e3, c1, c2, by rw [hl]; exact hc.2, h2 σ _ _ pre_refl s3 S3 (e2.mono pre_refl s3)⟩
        · rw [if_neg hc] at h2; exact h2.elim
      | _ => exact h2.elim
  | _ => exact h2.elim
/-- an augmented operator does what g says -/
def OpI (K : KZ) (r : V → V → Hp → VK → Prop) (g : U → U → Gp → R U) : Prop := ∀ ρ G H x y v w Q E, Sim K ρ G H → RU K ρ H x v → RU K ρ H y w → Post K (RU K) ρ H (g x y G) Q E → r v w H Q
theorem fputAug {op : Operator} {rd : V → V → Hp → VK → Prop} {g : U → U → Gp → R U} (o2 : OpI (kz X Z) rd g) (nx : ∀ x y G c fs G', g x y G ≠ .exc c fs G') (hop : InOp X op rd) (cf : ClF X.K cs f) (ho : FE X Z W o fo) (hv : FE X Z W value fv) : FS X Z W (.AugAssign (.Attribute o f tpos) op value pos) (sPutAug cs f g fo fv) := by
  refine PSimp (ps_fldaug ho hv hop) fun D σ H ⟨ρ, G, env, S, e, h⟩ => ?_
  refine tG_mono (stepS S e h) fun x H1 ⟨ρ1, G1, u, p1, s1, S1, e1, r1, h1⟩ => ?_
  rcases gFld_G (cs := cs) (f := f) (u := u) (G := G1) with ⟨v, q⟩ | q
  · obtain ⟨a, C, dx, vfs, w, rfl, e2, c1, c2, e3, ry, hcl⟩ := gFld_ok S1 r1 cf q
    have h1 : PostS (kz X Z) ρ1 H1 ((gFld cs f u G1).andThen env fun x G1 => (fv env G1).andThen env fun y G2 => (g x y G2).andThen env fun z G3 => putIf cs f z u G1 G3 env) D W := h1
    rw [q, R.andThen_ok] at h1
    refine ⟨a, C, dx, vfs, w, rfl, e2, c1, c2, e3, ?_⟩
    refine tG_mono (stepS S1 e1 h1) fun y H2 ⟨ρ2, G2, u2, p2, s2, S2, e2', r2, h2⟩ => ?_
    have hg : Post (kz X Z) (RU (kz X Z)) ρ2 H2 (g v u2 G2) (fun z H3 => ∃ dx' fs', H3 a = some (.ins C dx' fs') ∧ fs'.length < 1000 ∧ D.nx σ (upd H3 a (.ins C dx' (putF f z fs')))) (fun _ _ _ => False) := by
      cases qg : g v u2 G2 with
      | bad => rw [qg] at h2; exact h2
      | exc c fs G3 => exact absurd qg (nx _ _ _ _ _ _)
      | ok z G3 =>
        rw [qg, R.andThen_ok] at h2
        intro zv ρ3 H3 p3 s3 S3 r3
        unfold putIf at h2
        cases r1 with
        | @ref l _ ha =>
          simp only at h2
          cases q3 : G3[l]? with
          | none => rw [q3] at h2; exact h2.elim
          | some ob =>
            rw [q3] at h2
            cases ob with
            | ins c fs =>
              simp only at h2
              by_cases hc : cs.contains c = true ∧ fs.length < 1000 ∧ insC G1 (.ref l) = some c
              · rw [if_pos hc] at h2
                have ha3 := pre_get p3 (pre_get p2 ha)
                obtain ⟨dx3, vfs3, e5, rf3⟩ := S3.ins ha3 q3
                -- the class is the same
                have hC : C = He.ga X.K c := hcl c hc.2.2
                subst hC
                obtain ⟨S4, s4⟩ := setIns (C := a) S3 ha3 e5 (putU_rel (f := f) r3 rf3)
                have hl : vfs3.length = fs.length := by
                  have := congrArg List.length rf3.1
                  simpa using this.symm
                exact ⟨dx3, vfs3, e5, by rw [hl]; exact hc.2.1, h2 σ _ _ p3 (s3.trans s4) S4 ((e2'.mono p3 s3).mono pre_refl s4)⟩
              · rw [if_neg hc] at h2; exact h2.elim
            | _ => exact h2.elim
        | _ => exact h2.elim
    exact o2 _ _ _ _ _ _ _ _ _ S2 (ry.mono p2 s2) r2 hg
  · rw [q] at h1; exact h1.elim
theorem oiAdd {K : KZ} : OpI K rAdd gAugAdd := by
  intro ρ G H x y v w Q E S rx ry h
  cases rx <;> cases ry <;> first | exact h.elim | exact ⟨_, _, rfl, rfl, h.end_ S (.int _)⟩
theorem oiSub {K : KZ} : OpI K rSub gSub := by
  intro ρ G H x y v w Q E S rx ry h
  cases rx <;> cases ry <;> first | exact h.elim | exact ⟨_, _, rfl, rfl, h.end_ S (.int _)⟩
theorem nxAugAdd (x y : U) (G : Gp) (c : Str) (fs : List (Str × U)) (G' : Gp) : gAugAdd x y G ≠ .exc c fs G' := by
  unfold gAugAdd; split <;> exact fun h => nomatch h
theorem nxSub' (x y : U) (G : Gp) (c : Str) (fs : List (Str × U)) (G' : Gp) : gSub x y G ≠ .exc c fs G' := by
  unfold gSub; split <;> exact fun h => nomatch h
theorem fputAdd (cf : ClF X.K cs f) (ho : FE X Z W o fo) (hv : FE X Z W value fv) : FS X Z W (.AugAssign (.Attribute o f tpos) .Add value pos) (sPutAug cs f gAugAdd fo fv) := fputAug oiAdd nxAugAdd in_add cf ho hv
theorem fputSub (cf : ClF X.K cs f) (ho : FE X Z W o fo) (hv : FE X Z W value fv) : FS X Z W (.AugAssign (.Attribute o f tpos) .Sub value pos) (sPutAug cs f gSub fo fv) := fputAug oiSub nxSub' in_sub cf ho hv
end
/-! ### methods -/
def eMth (c m : Str) (F : List U → Gp → R U) (fo : Ev → Gp → R U) (fa : Ev → Gp → R (List U)) : Ev → Gp → R U := fun env G => (fo env G).bind fun o G1 => match o with
  | .ref l => match G1[l]? with
    | some (.ins c' fs) => if c' = c ∧ fs.lookup m = none then (fa env G1).bind fun us G2 => F (.ref l :: us) G2 else .bad
    | _ => .bad
  | _ => .bad
def eMake (c : Str) (F : List U → Gp → R U) (fa : Ev → Gp → R (List U)) : Ev → Gp → R U := fun env G => (fa env G).bind fun us G1 => (F (.ref G1.length :: us) (G1 ++ [.ins c []])).bind fun u G2 => match u with
  | .non => .ok (.ref G1.length) G2
  | _ => .bad
section
variable {X : Cx} {Z : ZZ X.K} {W : WX} {k : Nat} {f fI : Addr} {fd : FuncData} {ps : List Str} {c m x : Str} {p pos apos : Pos} {e o : Expr} {es : List Expr} {F : List U → Gp → R U} {fo : Ev → Gp → R U} {fa : Ev → Gp → R (List U)}
theorem arLen {n : Nat} {us : List U} {G : Gp} (ar : Ar n F) (h : F us G ≠ .bad) : us.length = n := by
  by_cases hl : us.length = n
  · exact hl
  · exact absurd (ar us G hl) h
theorem post_ne {α β : Type} {K : KZ} {rel : Rel α β} {ρ : List Addr} {H : Hp} {r : R α} {Q : β → Hp → Prop} {E : XK} (h : Post K rel ρ H r Q E) : r ≠ .bad := fun e => by rw [e] at h; exact h
theorem fmth {pl : Sem Bool} (hZ : Z.er = none) (Fn : FnF X.prog X.w X.K X.mg X.base k f fd ps F) (ar : Ar ps.length F) (hr : Room k X.A) (tk : Takes X W) (hc : Cls X.K (He.ga X.K c)) (hm : Meth X.K (He.ga X.K c) m f) (hb : Binds X.K fd ps []) (ho : FE X Z W o fo) (ha : FA X Z W (e :: es) fa)
    (hst : starEach (e :: es) X.env = (false, eval e X.env) :: starEach es X.env := by rfl) (hpl : (backTo pos (starEach es X.env)).any (·.1) = false := by rfl)
    (ht : eval (.Call (.Attribute o m apos) (e :: es) [] pos) X.env = (do
      let ov ← eval o X.env
      standAt apos.atName
      let (f, first) ← holding [ov] (getMethod ov m pl)
      callWith pos f first (backTo pos (starEach (e :: es) X.env)) (backToKw pos (keywordEach [] X.env))) := by rfl) : FE X Z W (.Call (.Attribute o m apos) (e :: es) [] pos) (eMth c m F fo fa) := by
  refine PEimp (pe_methSD (pl := pl) (dvs := []) (ds := []) (E := fun σ c d H => W c d σ H) ho hc hm Fn hr hb .nil (passesAt_tk tk) ha hst hpl ht) fun σ H Q ⟨ρ, G, env, S, e, h⟩ => ?_
  refine tG_mono (step S e h) fun v H1 ⟨ρ1, G1, u, p1, s1, S1, e1, r1, h1⟩ => ?_
  cases r1 with
  | @ref l a ha' =>
    simp only at h1
    cases q : G1[l]? with
    | none => rw [q] at h1; exact h1.elim
    | some ob =>
      rw [q] at h1
      cases ob with
      | ins c' fs =>
        simp only at h1
        by_cases hcc : c' = c ∧ fs.lookup m = none
        · rw [if_pos hcc] at h1
          obtain ⟨rfl, hlk⟩ := hcc
          obtain ⟨dx, vfs, e2, rf⟩ := S1.ins ha' q
          refine ⟨a, dx, vfs, rfl, e2, lookup_none_rel rf hlk, ?_⟩
          refine tG_mono (step (rel := RUs (kz X Z)) S1 e1 h1) fun vs H2 ⟨ρ2, G2, us, p2, s2, S2, e2', r2, h2⟩ => ?_
          rw [List.append_nil]
          have rr : RUs (kz X Z) ρ2 H2 (.ref l :: us) (.ref a :: vs) := .cons (.ref (pre_get p2 ha')) r2
          exact ⟨by rw [← rr.len]; exact arLen ar (post_ne h2), Z, ρ2, G2, _, hZ, S2, rr, h2⟩
        · rw [if_neg hcc] at h1; exact h1.elim
      | _ => exact h1.elim
  | _ => exact h1.elim
theorem fmth0 {pl : Sem Bool} (hZ : Z.er = none) (Fn : FnF X.prog X.w X.K X.mg X.base k f fd ps F) (ar : Ar ps.length F) (hr : Room k X.A) (tk : Takes X W) (hc : Cls X.K (He.ga X.K c)) (hm : Meth X.K (He.ga X.K c) m f) (hb : Binds X.K fd ps []) (ho : FE X Z W o fo)
    (ht : eval (.Call (.Attribute o m apos) [] [] pos) X.env = (do
      let ov ← eval o X.env
      standAt apos.atName
      let (f, first) ← holding [ov] (getMethod ov m pl)
      callWith pos f first (backTo pos (starEach [] X.env)) (backToKw pos (keywordEach [] X.env))) := by rfl) : FE X Z W (.Call (.Attribute o m apos) [] [] pos) (eMth c m F fo aNil) := by
  refine PEimp (pe_meth0SD (pl := pl) (dvs := []) (ds := []) (E := fun σ c d H => W c d σ H) ho hc hm Fn hr hb .nil (passesAt_tk tk) ht) fun σ H Q ⟨ρ, G, env, S, e, h⟩ => ?_
  refine tG_mono (step S e h) fun v H1 ⟨ρ1, G1, u, p1, s1, S1, e1, r1, h1⟩ => ?_
  cases r1 with
  | @ref l a ha' =>
    simp only at h1
    cases q : G1[l]? with
    | none => rw [q] at h1; exact h1.elim
    | some ob =>
      rw [q] at h1
      cases ob with
      | ins c' fs =>
        simp only at h1
        by_cases hcc : c' = c ∧ fs.lookup m = none
        · rw [if_pos hcc] at h1
          obtain ⟨rfl, hlk⟩ := hcc
          obtain ⟨dx, vfs, e2, rf⟩ := S1.ins ha' q
          have h2 : Post (kz X Z) (RU (kz X Z)) ρ1 H1 (F [.ref l] G1) Q fun c d H' => W c d σ H' := h1
          have rr : RUs (kz X Z) ρ1 H1 [.ref l] [.ref a] := .cons (.ref ha') .nil
          exact ⟨a, dx, vfs, rfl, e2, lookup_none_rel rf hlk, by rw [List.append_nil, ← rr.len]; exact arLen ar (post_ne h2), Z, ρ1, G1, _, hZ, S1, rr, h2⟩
        · rw [if_neg hcc] at h1; exact h1.elim
      | _ => exact h1.elim
  | _ => exact h1.elim
theorem fmake (hZ : Z.er = none) (Fn : FnF X.prog X.w X.K X.mg X.base k fI fd ps F) (ar : Ar ps.length F) (hr : Room (k + 1) X.A) (tk : Takes X W) (M : Mk X.K (He.ga X.K c) fI) (hm : X.mg c = some (.ref (He.ga X.K c))) (hb : Binds X.K fd ps []) (ha : FA X Z W (e :: es) fa) (hg : Gl X c := by rfl)
    (hdb : (c == ("__debug__" : Str)) = false := by decide) (he : starEach (e :: es) X.env = (false, eval e X.env) :: starEach es X.env := by rfl) (hpl : (backTo pos (starEach es X.env)).any (·.1) = false := by rfl) : FE X Z W (.Call (.Name c p) (e :: es) [] pos) (eMake c F fa) := by
  refine PEimp (pe_makeSD (dvs := []) (ds := []) (E := fun σ c d H => W c d σ H) M Fn hr hg hm hb .nil (passesAt_tk tk) ha hdb he hpl) fun σ H Q ⟨ρ, G, env, S, e, h⟩ => ?_
  refine tG_mono (step (rel := RUs (kz X Z)) S e h) fun vs H1 ⟨ρ1, G1, us, p1, s1, S1, e1, r1, h1⟩ => ?_
  intro x dx hx hdx ne
  rw [List.append_nil]
  have S2 : Sim (kz X Z) ρ1 G1 (upd H1 dx (.own x)) := S1.tup hdx
  have sd : Stb (kz X Z) H1 (upd H1 dx (.own x)) := stb_new hdx
  have hx2 : upd H1 dx (.own x) x = none := by rw [upd_ne (Ne.symm ne)]; exact hx
  have sx : Stb (kz X Z) (upd H1 dx (.own x)) (upd (upd H1 dx (.own x)) x (.ins (He.ga X.K c) dx [])) := stb_new hx2
  have S3 : Sim (kz X Z) (ρ1 ++ [x]) (G1 ++ [.ins c []]) (upd (upd H1 dx (.own x)) x (.ins (He.ga X.K c) dx [])) := S2.new hx2 ⟨rfl, rfl, .nil⟩
  have px : ρ1 <+: ρ1 ++ [x] := ⟨[x], rfl⟩
  have hl : (ρ1 ++ [x])[G1.length]? = some x := by rw [← S1.len]; simp
  have rr : RUs (kz X Z) (ρ1 ++ [x]) (upd (upd H1 dx (.own x)) x (.ins (He.ga X.K c) dx [])) (.ref G1.length :: us) (.ref x :: vs) := .cons (.ref hl) (r1.mono px (sd.trans sx))
  have h2 : Post (kz X Z) (RU (kz X Z)) (ρ1 ++ [x]) (upd (upd H1 dx (.own x)) x (.ins (He.ga X.K c) dx [])) ((F (.ref G1.length :: us) (G1 ++ [.ins c []])).bind fun u G2 => match u with
    | .non => .ok (.ref G1.length) G2
    | _ => .bad) Q fun c d H' => W c d σ H' := Post.lift h1 px (sd.trans sx)
  have h3 : Post (kz X Z) (RU (kz X Z)) (ρ1 ++ [x]) (upd (upd H1 dx (.own x)) x (.ins (He.ga X.K c) dx [])) (F (.ref G1.length :: us) (G1 ++ [.ins c []])) (fun v H2 => v = .non ∧ Q (.ref x) H2) fun c d H' => W c d σ H' := by
    cases q : F (.ref G1.length :: us) (G1 ++ [.ins c []]) with
    | bad => rw [q] at h2; exact h2
    | exc c fs G' => rw [q] at h2; exact h2
    | ok u G2 =>
      rw [q, R.bind_ok] at h2
      intro b ρ' H' p' s' S' r'
      cases r' with
      | non => exact ⟨rfl, h2 _ ρ' H' p' s' S' (.ref (pre_get p' hl))⟩
      | _ => exact h2.elim
  exact ⟨by rw [← rr.len]; exact arLen ar (post_ne h3), Z, _, _, _, hZ, S3, rr, h3⟩
end
end FL

set_option Elab.async false
set_option linter.all false
set_option maxRecDepth 100000
set_option maxHeartbeats 4000000
set_option autoImplicit false
/-! sorted: ints, tuples of ints and texts, at any length; of a list, a tuple, a dict with tuple keys -/
namespace L2
open PySem PySem.Spec PyProof.Rows PyProof.Rows.G
section
variable {prog : Program} {w : World} {A : Around} {E : Value → Shared → Prop} {s : Shared}
theorem sorted_core {u : Value} {vs : List Value} {ltv : Value → Value → Bool} {Q : Value → Shared → Prop} (O : SrtO.Swo ltv) (hz : vs.length ≤ sizeLine)
    (hcol : ∀ Q' : List Value → Shared → Prop, (∀ h' tk, (∀ b o, s.heap.get? b = some o → h'.get? b = some o) → Q' vs { s with heap := h', toks := tk }) → wpAny (model prog w) A.in1 (collect u) Q' E s)
    (hS : 2 ≤ vs.length → ∀ (h₁ : Heap) (tk : Nat) (a : Addr), h₁.get? a = some (seqObj "list" vs.toArray 0) → (∀ b o, s.heap.get? b = some o → b ≠ a ∧ h₁.get? b = some o) → SrtO.SortableO prog w A.in1.in1 { s with heap := h₁, toks := tk } a vs ltv)
    (h : ∀ (out : List Value) (h1 h' : Heap) (tk : Nat), SrtO.Srtd ltv out → SrtO.Stb ltv out vs → (∀ b o, s.heap.get? b = some o → h1.get? b = some o) → (∀ b o, h1.get? b = some o → h'.get? b = some o) → (∃ n, h'.get? h1.objs.size = some (seqObj "list" out.toArray n)) → Q (.ref h1.objs.size) { s with heap := h', toks := tk }) :
    wpAny (model prog w) A (call (.builtin "sorted") [u]) Q E s := by
  refine Calls.call_function_entry kind_sorted plain_sorted entry_sorted (args_sorted1 _) ?_
  unfold Builtin.«sorted»
  refine wpAny_bind (m := checkCount "sorted" 1 1 _) (wpAny_pure ?_)
  refine wpAny_bind (hcol _ fun h' tk hk => ?_)
  refine wpAny_bind (wpAny_newList ?_ hz)
  have hoL : (h'.push (seqObj "list" vs.toArray 0)).get? h'.objs.size = some (seqObj "list" vs.toArray 0) := Heap.get?_push_size _ rfl
  have keep : ∀ b o, s.heap.get? b = some o → b ≠ h'.objs.size ∧ (h'.push (seqObj "list" vs.toArray 0)).get? b = some o := fun b o q => ⟨Nat.ne_of_lt (Heap.lt_size (hk b o q)), Heap.get?_push_of_some _ (hk b o q)⟩
  show wpAny _ _ _ _ _ { s with heap := h'.push (seqObj "list" vs.toArray 0), toks := tk }
  refine wpAny_bind (wpAny_holding (wpAny_call_entry slot_list_sort ⟨_, hoL, rfl⟩ entry_list_sort (SrtO.list_sort_ord (s := { s with heap := h'.push (seqObj "list" vs.toArray 0), toks := tk }) O hoL hz (fun h2 => hS h2 _ tk _ hoL keep) fun out hs hb => ⟨_, rfl, ?_⟩) (args_list_sort _)))
  refine wpAny_pure ⟨_, rfl, h out h' _ tk hs hb hk (fun b o q => ?_) (sortedHeap_at (vs := vs) (out := out.toArray) hoL)⟩
  have q2 := Heap.get?_push_of_some (seqObj "list" vs.toArray 0) q
  rw [sortedHeap_old (Nat.ne_of_lt (Heap.lt_size q)) (Heap.lt_size q2)]
  exact q2
/-- the keys of tuples: ints, texts -/
abbrev SKey := List (Int ⊕ List Nat)
def kV1 : V → Int ⊕ List Nat
  | .int i => .inl i
  | .str x => .inr x.cps.toList
  | _ => .inl 0
def keyI (shape : Nat → Bool) : Nat → List V → Bool
  | _, [] => true
  | i, .int _ :: r => !shape i && keyI shape (i + 1) r
  | i, .str _ :: r => shape i && keyI shape (i + 1) r
  | _, _ => false
def keyV (H : Hp) (x : V) : SKey := match x with
  | .ref t => match H t with
    | some (.tup vs) => vs.map kV1
    | _ => []
  | _ => []
theorem keyV_tup {H : Hp} {t : Addr} {vs : List V} (h : H t = some (.tup vs)) : keyV H (.ref t) = vs.map kV1 := by
  unfold keyV
  simp only [h]
def ltK (a b : SKey) : Bool := lexLt itemOrd a b
theorem swoK : SrtO.Swo ltK := by
  refine ⟨fun x y h => ?_, fun x y z h1 h2 => ?_⟩
  · cases q : ltK y x with
    | false => rfl
    | true =>
      have := lex_trans (O := itemOrd) x y x h q
      rw [lex_irrefl] at this; cases this
  · cases q : ltK z x with
    | false => rfl
    | true =>
      rcases lex_negTrans (O := itemOrd) z y x q with e | e
      · exact absurd (h2.symm.trans e) (by decide)
      · exact absurd (h1.symm.trans e) (by decide)
theorem swoF {α : Type} (f : α → SKey) : SrtO.Swo fun x y => ltK (f x) (f y) := ⟨fun x y => swoK.asym _ _, fun x y z => swoK.tr _ _ _⟩
theorem keyI_items {shape : Nat → Bool} : ∀ {vs : List V} {its : List Value} {i : Nat}, Vals vs its → keyI shape i vs = true → tupItems shape i its = some (vs.map kV1)
  | [], _, i, .nil, _ => by simp [tupItems]
  | v :: vs, _, i, .cons r t, h => by
    cases v with
    | int n =>
      obtain ⟨tk, rfl⟩ := r
      unfold keyI at h
      rw [Bool.and_eq_true, Bool.not_eq_true'] at h
      simp [tupItems, h.1, keyI_items t h.2, kV1]
    | str x =>
      obtain ⟨tk, rfl⟩ := r
      unfold keyI at h
      rw [Bool.and_eq_true] at h
      simp [tupItems, h.1, keyI_items t h.2, kV1]
    | _ => exact nomatch h
/-- what is asked of the items: tuples of the shape -/
def IsKey (H : Hp) (shape : Nat → Bool) (x : V) : Prop := ∃ t v vs, x = .ref t ∧ H t = some (.tup (v :: vs)) ∧ keyI shape 0 (v :: vs) = true
end
section
variable {X : Cx} {pins : List (Addr × Obj)} {σ : St} {H : Hp} {s : Shared}
theorem key_at (I : Inv X pins σ H s) {shape : Nat → Bool} {u : Value} (hk : IsKey H shape (backV u)) (hr : ∃ a, u = .ref a) :
    ∃ a o x vs n, u = .ref a ∧ s.heap.get? a = some o ∧ o.cls = .type "tuple" ∧ o.data = .seq (x :: vs).toArray n ∧ tupItems shape 0 (x :: vs) = some (keyV H (backV u)) ∧ ((shape 0 = false → ∃ k t, x = .int k t) ∧ (shape 0 = true → ∃ y t, x = .str y t)) := by
  obtain ⟨a, rfl⟩ := hr
  obtain ⟨t, v, vs, e, ht, hs⟩ := hk
  cases e
  obtain ⟨_, its, r, o, ho, hc, n, hd⟩ := I.hok _ _ ht
  have e2 := keyI_items r hs
  cases r with
  | @cons _ x _ its' rx rt =>
    refine ⟨a, o, x, its', n, rfl, ho, hc, hd, ?_, ?_⟩
    · rw [e2]; show some _ = some (keyV H (.ref a)); rw [keyV_tup ht]
    · cases v with
      | int k =>
        obtain ⟨tk, rfl⟩ := rx
        have h0 : shape 0 = false := by
          unfold keyI at hs
          rw [Bool.and_eq_true, Bool.not_eq_true'] at hs
          exact hs.1
        exact ⟨fun _ => ⟨k, tk, rfl⟩, fun h => by rw [h0] at h; cases h⟩
      | str y =>
        obtain ⟨tk, rfl⟩ := rx
        have h0 : shape 0 = true := by
          unfold keyI at hs
          rw [Bool.and_eq_true] at hs
          exact hs.1
        exact ⟨(fun h => absurd (h0.symm.trans h) (by decide)), fun _ => ⟨y, tk, rfl⟩⟩
      | _ => exact nomatch hs
theorem keys_sortable (I : Inv X pins σ H s) {shape : Nat → Bool} {A : Around} {h₁ : Heap} {tk : Nat} {a : Addr} {its : List Value} (h0 : 0 < its.length) (hp : ∀ v ∈ its, IsKey H shape (backV v) ∧ ∃ a, v = .ref a)
    (kk : ∀ b o, s.heap.get? b = some o → b ≠ a ∧ h₁.get? b = some o) :
    SrtO.SortableO X.prog X.w A { s with heap := h₁, toks := tk } a its fun v u => ltK (keyV H (backV v)) (keyV H (backV u)) := by
  intro h' keep
  have at_ : ∀ v ∈ its, ∃ a o x vs n, v = .ref a ∧ h'.get? a = some o ∧ o.cls = .type "tuple" ∧ o.data = .seq (x :: vs).toArray n ∧ tupItems shape 0 (x :: vs) = some (keyV H (backV v)) ∧ ((shape 0 = false → ∃ k t, x = .int k t) ∧ (shape 0 = true → ∃ y t, x = .str y t)) := fun v hv => by
    obtain ⟨b, o, x, vs, n, e, ho, hc, hd, hi, hx⟩ := key_at I (hp v hv).1 (hp v hv).2
    exact ⟨b, o, x, vs, n, e, keep b o (kk b o ho).1 (kk b o ho).2, hc, hd, hi, hx⟩
  have tups : ∀ vs : List Value, (∀ v ∈ vs, v ∈ its) → ∃ fs, TupsOf h' shape vs fs ∧ fs.length = vs.length := by
    intro vs
    induction vs with
    | nil => intro _; exact ⟨[], .nil, rfl⟩
    | cons v vs ih =>
      intro hm
      obtain ⟨fs, h1, h2⟩ := ih fun x hx => hm x (List.mem_cons_of_mem _ hx)
      obtain ⟨b, o, x, ws, n, e, ho, hc, hd, hi, hx⟩ := at_ v (hm v List.mem_cons_self)
      have t1 : TupOf h' shape v x := ⟨b, o, (x :: ws).toArray, n, e, ho, hc, hd, by simp, hx.1, hx.2⟩
      exact ⟨x :: fs, TupsOf.cons t1 h1, by simp [h2]⟩
  obtain ⟨fs, ht, hl⟩ := tups its fun _ h => h
  refine ⟨tuples' true, fun Q E hq => tup_kind (s := { s with heap := h', toks := tk }) (by omega) ht hq, fun p q hpm hqm => ?_⟩
  obtain ⟨a1, o1, x1, v1, n1, e1, ho1, hc1, hd1, hi1, _⟩ := at_ _ hpm
  obtain ⟨a2, o2, x2, v2, n2, e2, ho2, hc2, hd2, hi2, _⟩ := at_ _ hqm
  show wpAny (model X.prog X.w) A (keyLt' (tuples' true) p.1 q.1) _ _ _
  rw [e1, e2]
  exact PySem.W.kat_lt (s := { s with heap := h', toks := tk }) ho1 hd1 ho2 hd2 (tup_lex (x1 :: v1) (x2 :: v2) 0 _ _ hi1 hi2 (by simp) ⟨rfl, rfl⟩)
/-- sorted: the items' keys, a new list -/
def sortV (H : Hp) (xs : List V) : List V := xs.mergeSort fun x y => !ltK (keyV H y) (keyV H x)
theorem tot_ltK {α : Type} (f : α → SKey) : PySem.W.TotalLe fun x y : α => !ltK (f y) (f x) := by
  refine ⟨fun a b c h1 h2 => ?_, fun a b => ?_⟩
  · rw [Bool.not_eq_true'] at h1 h2 ⊢
    exact swoK.tr _ _ _ h1 h2
  · cases q : ltK (f b) (f a) with
    | false => exact .inl rfl
    | true => right; rw [swoK.asym _ _ q]; rfl
theorem stb_sort {α : Type} (f : α → SKey) (xs : List α) : SrtO.Srtd (fun x y => ltK (f x) (f y)) (xs.mergeSort fun x y => !ltK (f y) (f x)) ∧ SrtO.Stb (fun x y => ltK (f x) (f y)) (xs.mergeSort fun x y => !ltK (f y) (f x)) xs := by
  refine ⟨?_, List.mergeSort_perm _ _, fun x => ?_⟩
  · have h := PySem.W.sort_pairwise (tot_ltK f) xs
    exact h.imp fun {a b} e => by rwa [Bool.not_eq_true'] at e
  · have h := PySem.W.sort_stable (tot_ltK f) xs x
    have e : SrtO.eqv (fun x y => ltK (f x) (f y)) x = PySem.W.sameRank (fun x y : α => !ltK (f y) (f x)) x := by
      funext y
      unfold SrtO.eqv PySem.W.sameRank
      rw [Bool.and_comm]
    rw [e]
    exact h
/-- the items of what is handed in: a list's, a tuple's -/
theorem run_sortK {u : Value} {xs : List V} {its : List Value} {shape : Nat → Bool} {Q : VK} (I : Inv X pins σ H s) (rv : Vals xs its) (hz : its.length ≤ sizeLine) (hx : ∀ x ∈ xs, IsKey H shape x)
    (hcol : ∀ Q' : List Value → Shared → Prop, (∀ h' tk, (∀ b o, s.heap.get? b = some o → h'.get? b = some o) → Q' its { s with heap := h', toks := tk }) → wpAny (model X.prog X.w) X.A.in1 (collect u) Q' X.xe s)
    (q : ∀ p, H p = none → Q (.ref p) (upd H p (.lst (sortV H xs)))) : wpAny (model X.prog X.w) X.A (call (.builtin "sorted") [u]) (EP X pins σ Q) X.xe s := by
  obtain ⟨e1, e2⟩ := refs_back rv fun x m => by
    obtain ⟨t, v, vs, e, _⟩ := hx x m
    exact ⟨t, e⟩
  have hp : ∀ v ∈ its, IsKey H shape (backV v) ∧ ∃ a, v = .ref a := fun v hv => ⟨hx _ (by rw [e1]; exact List.mem_map.mpr ⟨v, hv, rfl⟩), e2 v hv⟩
  refine sorted_core (swoF fun v => keyV H (backV v)) hz hcol (fun h2 h₁ tk a ha kk => keys_sortable I (by omega) hp kk) fun out h1 h' tk hs hb hk kp hn => ?_
  have h3 : ∀ u ∈ out, ∃ a, u = Value.ref a := fun u hu => e2 u (hb.perm.mem_iff.mp hu)
  obtain ⟨n, hn⟩ := hn
  have hb2 : SrtO.Stb (fun x y => ltK (keyV H x) (keyV H y)) (out.map backV) xs := by
    rw [e1]
    exact SrtO.Stb.map (swoF fun v => keyV H v) backV hb
  have hs2 : SrtO.Srtd (fun x y => ltK (keyV H x) (keyV H y)) (out.map backV) := SrtO.srtd_map hs
  obtain ⟨s1, s2⟩ := stb_sort (fun v => keyV H v) xs
  have b2 : SrtO.Stb (fun x y => ltK (keyV H x) (keyV H y)) xs (sortV H xs) := ⟨s2.perm.symm, fun x => (s2.cls x).symm⟩
  have eq : out.map backV = sortV H xs := SrtO.stb_uniq (swoF fun v => keyV H v) hs2 s1 (hb2.trans b2)
  have v3 : Vals (sortV H xs) out := by rw [← eq]; exact vals_back h3
  refine ⟨.ref h1.objs.size, upd H h1.objs.size (.lst (sortV H xs)), (I.kept (t' := tk) hk).laid (t' := tk) kp (Nat.le_refl _) ⟨?_, out, n, v3, hn⟩, rfl, q _ ((I.kept (t' := tk) hk).hok.fresh (Nat.le_refl _))⟩
  rw [v3.length, hb.perm.length_eq]
  exact hz
theorem run_sortI {u : Value} {ns : List Int} {its : List Value} {Q : VK} (I : Inv X pins σ H s) (hI : IntsAre its ns) (hz : its.length ≤ sizeLine)
    (hcol : ∀ Q' : List Value → Shared → Prop, (∀ h' tk, (∀ b o, s.heap.get? b = some o → h'.get? b = some o) → Q' its { s with heap := h', toks := tk }) → wpAny (model X.prog X.w) X.A.in1 (collect u) Q' X.xe s)
    (q : ∀ (ns' : List Int) p, ns'.Perm ns → ns'.Pairwise (· ≤ ·) → H p = none → Q (.ref p) (upd H p (.lst (ns'.map V.int)))) : wpAny (model X.prog X.w) X.A (call (.builtin "sorted") [u]) (EP X pins σ Q) X.xe s := by
  refine sorted_core SrtO.swo_int hz hcol (fun h2 h₁ tk a ha kk => SrtO.ints_sortable hI h2) fun out h1 h' tk hs hb hk kp hn => ?_
  obtain ⟨n, hn⟩ := hn
  obtain ⟨k1, k2, k3⟩ := SrtO.ints_out hI hs hb
  have v3 : Vals ((out.map SrtO.iv).map V.int) out := vals_of_ints k1
  refine ⟨.ref h1.objs.size, upd H h1.objs.size (.lst ((out.map SrtO.iv).map V.int)), (I.kept (t' := tk) hk).laid (t' := tk) kp (Nat.le_refl _) ⟨?_, out, n, v3, hn⟩, rfl, q _ _ k2 k3 ((I.kept (t' := tk) hk).hok.fresh (Nat.le_refl _))⟩
  rw [v3.length, hb.perm.length_eq]
  exact hz
/-- how a list, a tuple is collected -/
theorem col_seq {A : Around} {E : Value → Shared → Prop} {a : Addr} {its : List Value} {T : String} (hT : T = "list" ∨ T = "tuple") (h : ∃ o, s.heap.get? a = some o ∧ o.cls = .type T ∧ ∃ n, o.data = .seq its.toArray n) (hz : its.length ≤ sizeLine)
    (Q' : List Value → Shared → Prop) (hq : ∀ h' tk, (∀ b o, s.heap.get? b = some o → h'.get? b = some o) → Q' its { s with heap := h', toks := tk }) : wpAny (model X.prog X.w) A (collect (.ref a)) Q' E s := by
  obtain ⟨o, ho, hc, n, hd⟩ := h
  refine wpAny_collect_seq a hT ho hc hd (fun h' hk => ?_) (by rw [List.size_toArray]; exact hz)
  exact hq h' s.toks hk
end
/-- sorted(xs), xs a list or a tuple of tuples, of ints -/
def rSrtK (K : PySem.W.Frag) : List V → Hp → VK → Prop := fun vs H Q => ∃ (a : Addr) (xs : List V), vs = [V.ref a] ∧ (SqL K H a xs ∨ SqT K H a xs) ∧
  ((∃ shape, (∀ x ∈ xs, IsKey H shape x) ∧ ∀ p, H p = none → Q (.ref p) (upd H p (.lst (sortV H xs)))) ∨
   (∃ ns : List Int, xs = ns.map V.int ∧ ∀ (ns' : List Int) p, ns'.Perm ns → ns'.Pairwise (· ≤ ·) → H p = none → Q (.ref p) (upd H p (.lst (ns'.map V.int)))))
theorem cr_srtK {X : Cx} : CallR X (.builtin "sorted") (rSrtK X.K) := by
  intro pins s σ H vs us Q I r h
  obtain ⟨a, xs, rfl, hs, hx⟩ := h
  obtain ⟨u, rfl, ru⟩ := vals1 r
  obtain rfl : u = Value.ref a := ru
  obtain ⟨its, rv, hz, hcol⟩ : ∃ its : List Value, Vals xs its ∧ its.length ≤ sizeLine ∧ ∀ Q' : List Value → Shared → Prop, (∀ h' tk, (∀ b o, s.heap.get? b = some o → h'.get? b = some o) → Q' its { s with heap := h', toks := tk }) → wpAny (model X.prog X.w) X.A.in1 (collect (.ref a)) Q' X.xe s := by
    rcases hs with hs | hs
    · obtain ⟨its, rv, hl, hz⟩ := I.list hs
      have hz : its.length ≤ sizeLine := by rw [← rv.length]; exact hz
      exact ⟨its, rv, hz, col_seq (X := X) (.inl rfl) hl.isList hz⟩
    · obtain ⟨its, rv, hl, hz⟩ := I.tuple hs
      have hz : its.length ≤ sizeLine := by rw [← rv.length]; exact hz
      exact ⟨its, rv, hz, col_seq (X := X) (.inr rfl) hl hz⟩
  rcases hx with ⟨shape, hk, q⟩ | ⟨ns, rfl, q⟩
  · exact run_sortK I rv hz hk hcol q
  · exact run_sortI I (intsAre_of rv) hz hcol q
end L2
namespace FL
open PySem PySem.Spec L2
def kU1 : U → Int ⊕ List Nat
  | .int i => .inl i
  | .str x => .inr x.cps.toList
  | _ => .inl 0
def keyU (x : U) : SKey := match x with
  | .tup xs => xs.map kU1
  | _ => []
def keyIU (shape : Nat → Bool) : Nat → List U → Bool
  | _, [] => true
  | i, .int _ :: r => !shape i && keyIU shape (i + 1) r
  | i, .str _ :: r => shape i && keyIU shape (i + 1) r
  | _, _ => false
def shapeU (xs : List U) (i : Nat) : Bool := xs.any fun x => match x with
  | .tup ys => match ys[i]? with
    | some (.str _) => true
    | _ => false
  | _ => false
def okKey (shape : Nat → Bool) (x : U) : Bool := match x with
  | .tup ys => !ys.isEmpty && keyIU shape 0 ys
  | _ => false
def leU (x y : U) : Bool := !ltK (keyU y) (keyU x)
def sortU (xs : List U) : List U := xs.mergeSort leU
def sortRes (xs : List U) (G : Gp) : R U := match intsU xs with
  | some ns => .ok (.ref G.length) (G ++ [.lst (ns.mergeSort.map .int)])
  | none => if xs.all (okKey (shapeU xs)) = true then .ok (.ref G.length) (G ++ [.lst (sortU xs)]) else .bad
def bSorted (us : List U) (G : Gp) : R U := match us with
  | [u] => match seqU G u with
    | some xs => sortRes xs G
    | none => .bad
  | _ => .bad
section
variable {K : KZ}
theorem keyIU_rel {ρ : List Addr} {H : Hp} {shape : Nat → Bool} : ∀ {xs : List U} {vs : List V} {i : Nat}, RUs K ρ H xs vs → keyIU shape i xs = true → keyI shape i vs = true ∧ vs.map kV1 = xs.map kU1
  | _, _, i, .nil, _ => ⟨rfl, rfl⟩
  | _, _, i, .cons (x := x) hx ht, h => by
    cases hx with
    | int n =>
      unfold keyIU at h
      rw [Bool.and_eq_true] at h
      obtain ⟨q1, q2⟩ := keyIU_rel ht h.2
      exact ⟨by unfold keyI; rw [h.1, q1]; rfl, by rw [List.map_cons, List.map_cons, q2]; rfl⟩
    | str z =>
      unfold keyIU at h
      rw [Bool.and_eq_true] at h
      obtain ⟨q1, q2⟩ := keyIU_rel ht h.2
      exact ⟨by unfold keyI; rw [h.1, q1]; rfl, by rw [List.map_cons, List.map_cons, q2]; rfl⟩
    | _ => exact nomatch h
theorem okKey_rel {ρ : List Addr} {H : Hp} {shape : Nat → Bool} {x : U} {v : V} (r : RU K ρ H x v) (h : okKey shape x = true) : IsKey H shape v ∧ keyV H v = keyU x := by
  cases r with
  | @tup xs vs a ha hr =>
    unfold okKey at h
    simp only [Bool.and_eq_true, Bool.not_eq_true'] at h
    obtain ⟨q1, q2⟩ := keyIU_rel hr h.2
    have e : keyV H (.ref a) = vs.map kV1 := keyV_tup ha
    refine ⟨?_, by rw [e, q2]; rfl⟩
    cases hr with
    | nil => exact absurd h.1 (by decide)
    | cons hx ht => exact ⟨a, _, _, rfl, ha, q1⟩
  | _ => exact nomatch h
theorem each_of {ρ : List Addr} {H : Hp} : ∀ {xs : List U} {vs : List V}, RUs K ρ H xs vs → PySem.W.EachIs (RU K ρ H) xs vs
  | _, _, .nil => .nil
  | _, _, .cons h t => .cons h (each_of t)
theorem of_each {ρ : List Addr} {H : Hp} : ∀ {xs : List U} {vs : List V}, PySem.W.EachIs (RU K ρ H) xs vs → RUs K ρ H xs vs
  | _, _, .nil => .nil
  | _, _, .cons h t => .cons h (of_each t)
theorem sort_rel {ρ : List Addr} {H : Hp} {shape : Nat → Bool} {xs : List U} {vs : List V} (r : RUs K ρ H xs vs) (h : xs.all (okKey shape) = true) : (∀ v ∈ vs, IsKey H shape v) ∧ RUs K ρ H (sortU xs) (sortV H vs) := by
  have e := each_of r
  have key : ∀ p ∈ xs.zip vs, IsKey H shape p.2 ∧ keyV H p.2 = keyU p.1 := fun p hp => okKey_rel (e.zip p hp) (List.all_eq_true.mp h p.1 (List.of_mem_zip hp).1)
  refine ⟨fun v hv => ?_, of_each (PySem.W.sort_each e fun p hp q hq => ?_)⟩
  · obtain ⟨i, hi, rfl⟩ := List.mem_iff_getElem.mp hv
    have hi2 : i < (xs.zip vs).length := by simp [r.len, hi]
    have := key _ (List.getElem_mem hi2)
    simpa using this.1
  · unfold leU
    rw [(key p hp).2, (key q hq).2]
theorem int_sort_uniq {ns ms : List Int} (h1 : ms.Perm ns) (h2 : ms.Pairwise (· ≤ ·)) : ms = ns.mergeSort := by
  have s1 : ns.mergeSort.Pairwise (fun a b : Int => a ≤ b) := by
    have := List.pairwise_mergeSort (le := fun a b : Int => decide (a ≤ b)) (fun a b c h1 h2 => by simp at *; omega) (fun a b => by simp; omega) ns
    exact this.imp fun h => of_decide_eq_true h
  exact List.Perm.eq_of_pairwise (fun a b _ _ h1 h2 => by omega) h2 s1 (h1.trans (List.mergeSort_perm _ _).symm)
theorem oSorted : OpN K (rSrtK K.K) bSorted := by
  intro ρ G H us vs Q E S r h
  unfold bSorted at h
  split at h
  · rename_i u
    obtain ⟨v, rfl, rv⟩ := r.one
    cases q : seqU G u with
    | none => rw [q] at h; exact h.elim
    | some xs =>
      rw [q] at h
      simp only at h
      obtain ⟨p, ws, rfl, hq, hr⟩ := seqU_ok S rv q
      unfold sortRes at h
      cases q2 : intsU xs with
      | some ns =>
        rw [q2] at h
        have e := intsU_rel hr q2
        subst e
        refine ⟨p, _, rfl, hq, .inr ⟨ns, rfl, fun ns' p h1 h2 hp => ?_⟩⟩
        rw [int_sort_uniq h1 h2]
        exact newLst S (RUs.ints _) h p hp
      | none =>
        rw [q2] at h
        simp only at h
        by_cases ho : xs.all (okKey (shapeU xs)) = true
        · rw [if_pos ho] at h
          obtain ⟨k1, k2⟩ := sort_rel hr ho
          exact ⟨p, ws, rfl, hq, .inl ⟨shapeU xs, k1, fun p hp => newLst S k2 h p hp⟩⟩
        · rw [if_neg ho] at h; exact h.elim
  · exact h.elim
end
section
variable {X : Cx} {Z : ZZ X.K} {W : WX} {e : Expr} {fa : Ev → Gp → R (List U)} {p pos : Pos}
theorem fsorted (hm : X.mg "sorted" = none) (ha : FA X Z W [e] fa) (hg : Gl X "sorted" := by rfl) (he : starEach [e] X.env = (false, eval e X.env) :: starEach [] X.env := by rfl) (hpl : (backTo pos (starEach [] X.env)).any (·.1) = false := by rfl) : FE X Z W (.Call (.Name "sorted" p) [e] [] pos) (eCall bSorted fa) :=
  fcallB oSorted cr_srtK hg hm (by decide +kernel) ha (by decide) (by decide) he hpl
end
end FL

set_option Elab.async false
set_option linter.all false
set_option maxRecDepth 100000
set_option maxHeartbeats 4000000
set_option autoImplicit false
/-! o[i] op= e; list(range(n)); str(i); isinstance(e, ValueError); < and <= of texts and of tuples of ints; a list or a tuple unpacked -/
namespace L2
open PySem PySem.Spec PyProof.Rows
section
variable {X : Cx}
def rIxP (K : PySem.W.Frag) : V → V → Hp → VK → Prop := fun x y H Q => ∃ p xs i v, x = .ref p ∧ y = .int i ∧ 0 ≤ i ∧ SqL K H p xs ∧ atI xs i = some v ∧ Q v H
theorem get_listP : PGet X (rIxP X.K) := by
  intro pins s σ H x y v u Q I rx ry h
  obtain ⟨p, xs, i, z, rfl, rfl, h0, hq, he, q⟩ := h
  cases rx
  obtain ⟨t, rfl⟩ := ry
  obtain ⟨its, r, pl, hz⟩ := I.list hq
  obtain ⟨j, h1, h2, h3, h4, h5⟩ := atI_get he
  obtain ⟨w, ew, rw'⟩ := r.get h2
  have hl := r.length
  have hn := line63
  have hj : i.toNat = j := by
    rw [seqIndex_of h0 h5] at h1
    exact Option.some.inj h1
  exact wpAny_getItem_list pl.isList h0 (by omega) (by rw [hj]; simpa using ew) ⟨z, H, I, rw', q⟩
theorem PG.or {e : Expr} {t1 t2 : TG} (h1 : PG X e t1) (h2 : PG X e t2) : PG X e (fun v σ H Q => t1 v σ H Q ∨ t2 v σ H Q) := by
  refine ⟨fun pins s σ H v u Q I r h => ?_⟩
  rcases h with h | h
  · exact h1.run pins s σ H v u Q I r h
  · exact h2.run pins s σ H v u Q I r h
end
end L2
namespace FL
open PySem PySem.Spec L2
def gIdxL (o i : U) (G : Gp) : R U := match o, i with
  | .ref l, .int k => match G[l]? with
    | some (.lst xs) => if 0 ≤ k then match atI xs k with
      | some v => .ok v G
      | none => .bad
      else .bad
    | _ => .bad
  | _, _ => .bad
def putRes (r : R Unit) (env : Ev) : SR := match r with
  | .ok _ G => .nx env G
  | _ => .bad
def sAugSub (g : U → U → Gp → R U) (fo fi fv : Ev → Gp → R U) : Ev → Gp → SR := fun env G => (fo env G).andThen env fun o G1 => (fi env G1).andThen env fun i G2 => (gIdxL o i G2).andThen env fun x G2 => (fv env G2).andThen env fun y G3 => (g x y G3).andThen env fun z G4 => putRes (setU o i z G4) env
theorem gIdxL_ref {l : Nat} {xs : List U} {k : Int} {v : U} {G : Gp} (h : G[l]? = some (.lst xs)) (h0 : 0 ≤ k) (hv : atI xs k = some v) : gIdxL (.ref l) (.int k) G = .ok v G := by
  simp only [gIdxL, h, if_pos h0, hv]
section
variable {K : KZ}
theorem gIdxL_cases (o i : U) (G : Gp) : (∃ v, gIdxL o i G = .ok v G) ∨ gIdxL o i G = .bad := by
  unfold gIdxL
  split
  · split
    · split
      · split
        · exact .inl ⟨_, rfl⟩
        · exact .inr rfl
      · exact .inr rfl
    · exact .inr rfl
  · exact .inr rfl
theorem gIdxL_ok {ρ : List Addr} {G : Gp} {H : Hp} {o i v : U} {ov iv : V} (S : Sim K ρ G H) (ro : RU K ρ H o ov) (ri : RU K ρ H i iv) (h : gIdxL o i G = .ok v G) : ∃ p xs k w, ov = .ref p ∧ iv = .int k ∧ 0 ≤ k ∧ SqL K.K H p xs ∧ atI xs k = some w ∧ RU K ρ H v w := by
  unfold gIdxL at h
  cases ro with
  | @ref l a ha =>
    cases ri with
    | int k =>
      simp only at h
      cases q : G[l]? with
      | none => rw [q] at h; exact nomatch h
      | some ob =>
        rw [q] at h
        cases ob with
        | lst xs =>
          simp only at h
          by_cases h0 : 0 ≤ k
          · rw [if_pos h0] at h
            cases q2 : atI xs k with
            | none => rw [q2] at h; exact nomatch h
            | some w =>
              rw [q2] at h
              cases h
              obtain ⟨vs, e, r⟩ := S.list ha q
              obtain ⟨y, e2, ry⟩ := atI_rel r q2
              exact ⟨a, vs, k, y, rfl, rfl, h0, SqL.of e, e2, ry⟩
          · rw [if_neg h0] at h; exact nomatch h
        | _ => exact nomatch h
    | _ => exact nomatch h
  | _ => cases ri <;> exact nomatch h
end
section
variable {X : Cx} {Z : ZZ X.K} {W : WX} {o i e value : Expr} {fo fi fv : Ev → Gp → R U} {pos tpos : Pos}
theorem faugSub {op : Operator} {tip : TIp} {g : U → U → Gp → R U} (o2 : OpI (kz X Z) tip g) (nx : ∀ x y G c fs G', g x y G ≠ .exc c fs G') (hp : PIp X op tip) (ho : FE X Z W o fo) (hi : FE X Z W i fi) (hv : FE X Z W e fv)
    (ha : ∀ ov iv new, augStore i ov iv new = (do holding [new, ov, iv] (setItem ov iv new); release [new, ov, iv] []; pure .next) := by intros; rfl) : FS X Z W (.AugAssign (.Subscript o i tpos) op e pos) (sAugSub g fo fi fv) := by
  refine PSimp (ps_augS ho hi get_listP hv hp set_list ha) fun D σ H ⟨ρ, G, env, S, e, h⟩ => ?_
  refine tG_mono (stepS S e h) fun ov H1 ⟨ρ1, G1, u, p1, s1, S1, e1, r1, h1⟩ => ?_
  refine tG_mono (stepS S1 e1 h1) fun iv H2 ⟨ρ2, G2, w, p2, s2, S2, e2, r2, h2⟩ => ?_
  have r1' := r1.mono p2 s2
  rcases gIdxL_cases u w G2 with ⟨x, q⟩ | q
  · obtain ⟨p, xs, k, xv, rfl, rfl, h0, hs, hat, rx⟩ := gIdxL_ok S2 r1' r2 q
    have h2 : PostS (kz X Z) ρ2 H2 ((gIdxL u w G2).andThen env fun x G2 => (fv env G2).andThen env fun y G3 => (g x y G3).andThen env fun z G4 => putRes (setU u w z G4) env) D W := h2
    rw [q, R.andThen_ok] at h2
    refine ⟨p, xs, k, xv, rfl, rfl, h0, hs, hat, ?_⟩
    refine tG_mono (stepS S2 e2 h2) fun y H3 ⟨ρ3, G3, u3, p3, s3, S3, e3, r3, h3⟩ => ?_
    have hg : Post (kz X Z) (RU (kz X Z)) ρ3 H3 (g x u3 G3) (fun z H5 => rSetL (.ref p) (.int k) z H5 fun H6 => D.nx σ H6) (fun _ _ _ => False) := by
      cases qg : g x u3 G3 with
      | bad => rw [qg] at h3; exact h3
      | exc c fs G4 => exact absurd qg (nx _ _ _ _ _ _)
      | ok z G4 =>
        rw [qg, R.andThen_ok] at h3
        intro zv ρ4 H4 p4 s4 S4 r4
        unfold putRes at h3
        cases qs : setU u w z G4 with
        | ok t G5 =>
          rw [qs] at h3
          exact setU_ok S4 ((r1'.mono p3 s3).mono p4 s4) ((r2.mono p3 s3).mono p4 s4) r4 qs fun H6 s6 S6 => h3 σ ρ4 H6 p4 (s4.trans s6) S6 ((e3.mono p4 s4).mono pre_refl s6)
        | exc c fs G5 => rw [qs] at h3; exact h3.elim
        | bad => rw [qs] at h3; exact h3.elim
    exact o2 _ _ _ _ _ _ _ _ _ S3 (rx.mono p3 s3) r3 hg
  · have h2 : PostS (kz X Z) ρ2 H2 ((gIdxL u w G2).andThen env fun x G2 => (fv env G2).andThen env fun y G3 => (g x y G3).andThen env fun z G4 => putRes (setU u w z G4) env) D W := h2
    rw [q] at h2; exact h2.elim
theorem oipAdd {K : KZ} : OpI K (ipI fun i j => i + j) gAugAdd := by
  intro ρ G H x y v w Q E S rx ry h
  cases rx <;> cases ry <;> first | exact h.elim | exact ⟨_, _, rfl, rfl, h.end_ S (.int _)⟩
theorem oipSub {K : KZ} : OpI K (ipI fun i j => i - j) gSub := by
  intro ρ G H x y v w Q E S rx ry h
  cases rx <;> cases ry <;> first | exact h.elim | exact ⟨_, _, rfl, rfl, h.end_ S (.int _)⟩
theorem faugSubAdd (ho : FE X Z W o fo) (hi : FE X Z W i fi) (hv : FE X Z W e fv)
    (ha : ∀ ov iv new, augStore i ov iv new = (do holding [new, ov, iv] (setItem ov iv new); release [new, ov, iv] []; pure .next) := by intros; rfl) : FS X Z W (.AugAssign (.Subscript o i tpos) .Add e pos) (sAugSub gAugAdd fo fi fv) := faugSub oipAdd nxAugAdd ip_add ho hi hv ha
theorem faugSubSub (ho : FE X Z W o fo) (hi : FE X Z W i fi) (hv : FE X Z W e fv)
    (ha : ∀ ov iv new, augStore i ov iv new = (do holding [new, ov, iv] (setItem ov iv new); release [new, ov, iv] []; pure .next) := by intros; rfl) : FS X Z W (.AugAssign (.Subscript o i tpos) .Sub e pos) (sAugSub gSub fo fi fv) := faugSub oipSub nxSub' ip_sub ho hi hv ha
end
/-! list(range(n)), tuple(range(n)), tuple(range(a, b)) -/
def gRgL1 (x : U) (G : Gp) : R U := gRgL (.int 0) x G
def gRgT (x y : U) (G : Gp) : R U := match x, y with
  | .int a, .int b => if rgOk a b then .ok (.tup ((rgI a b).map .int)) G else .bad
  | _, _ => .bad
def gRgT1 (x : U) (G : Gp) : R U := gRgT (.int 0) x G
section
variable {X : Cx} {Z : ZZ X.K} {W : WX} {a b : Expr} {fa fb : Ev → Gp → R U} {p q pos pos2 : Pos}
theorem flistRg1 (hc : X.calm = true) (hml : X.mg "list" = none) (hmr : X.mg "range" = none) (ha : FE X Z W a fa) (hgl : Gl X "list" := by rfl) (hgr : Gl X "range" := by rfl)
    (na : starEach [.Call (.Name "range" q) [a] [] pos2] X.env = (false, eval (.Call (.Name "range" q) [a] [] pos2) X.env) :: starEach [] X.env := by rfl)
    (na2 : starEach [a] X.env = (false, eval a X.env) :: starEach [] X.env := by rfl) :
    FE X Z W (.Call (.Name "list" p) [.Call (.Name "range" q) [a] [] pos2] [] pos) (eUn gRgL1 fa) := by
  refine PEimp (pe_listRg hc hgl hml (prg_1 hgr hmr ha na2) na) fun σ H Q ⟨ρ, G, env, S, e, h⟩ => ?_
  refine tG_mono (step S e h) fun v H1 ⟨ρ1, G1, x, p1, s1, S1, e1, r1, h1⟩ => ?_
  cases r1 with
  | int j =>
    have h2 : Post _ _ _ _ (if rgOk 0 j then R.ok (U.ref G1.length) (G1 ++ [.lst ((rgI 0 j).map .int)]) else .bad) _ _ := h1
    by_cases hr : rgOk 0 j
    · rw [if_pos hr] at h2
      refine ⟨j, rfl, hr, ?_⟩
      rw [rgV_eq]
      exact newLst S1 (RUs.ints _) h2
    · rw [if_neg hr] at h2; exact h2.elim
  | _ => exact h1.elim
theorem ftupRg1 (hc : X.calm = true) (hml : X.mg "tuple" = none) (hmr : X.mg "range" = none) (ha : FE X Z W a fa) (hgl : Gl X "tuple" := by rfl) (hgr : Gl X "range" := by rfl)
    (na : starEach [.Call (.Name "range" q) [a] [] pos2] X.env = (false, eval (.Call (.Name "range" q) [a] [] pos2) X.env) :: starEach [] X.env := by rfl)
    (na2 : starEach [a] X.env = (false, eval a X.env) :: starEach [] X.env := by rfl) :
    FE X Z W (.Call (.Name "tuple" p) [.Call (.Name "range" q) [a] [] pos2] [] pos) (eUn gRgT1 fa) := by
  refine PEimp (pe_tupRg hc hgl hml (prg_1 hgr hmr ha na2) na) fun σ H Q ⟨ρ, G, env, S, e, h⟩ => ?_
  refine tG_mono (step S e h) fun v H1 ⟨ρ1, G1, x, p1, s1, S1, e1, r1, h1⟩ => ?_
  cases r1 with
  | int j =>
    have h2 : Post _ _ _ _ (if rgOk 0 j then R.ok (U.tup ((rgI 0 j).map .int)) G1 else .bad) _ _ := h1
    by_cases hr : rgOk 0 j
    · rw [if_pos hr] at h2
      refine ⟨j, rfl, hr, ?_⟩
      rw [rgV_eq]
      exact newTup S1 (RUs.ints _) h2
    · rw [if_neg hr] at h2; exact h2.elim
  | _ => exact h1.elim
theorem ftupRg2 (hc : X.calm = true) (hml : X.mg "tuple" = none) (hmr : X.mg "range" = none) (ha : FE X Z W a fa) (hb : FE X Z W b fb) (hgl : Gl X "tuple" := by rfl) (hgr : Gl X "range" := by rfl)
    (na : starEach [.Call (.Name "range" q) [a, b] [] pos2] X.env = (false, eval (.Call (.Name "range" q) [a, b] [] pos2) X.env) :: starEach [] X.env := by rfl)
    (na2 : starEach [a, b] X.env = (false, eval a X.env) :: starEach [b] X.env := by rfl) (nb : starEach [b] X.env = (false, eval b X.env) :: starEach [] X.env := by rfl) (hp : (backTo pos2 (starEach [b] X.env)).any (·.1) = false := by rfl) :
    FE X Z W (.Call (.Name "tuple" p) [.Call (.Name "range" q) [a, b] [] pos2] [] pos) (eBin gRgT fa fb) := by
  refine PEimp (pe_tupRg hc hgl hml (prg_2 hgr hmr ha hb na2 nb hp) na) fun σ H Q ⟨ρ, G, env, S, e, h⟩ => ?_
  refine tG_mono (step S e h) fun v H1 ⟨ρ1, G1, x, p1, s1, S1, e1, r1, h1⟩ => ?_
  refine tG_mono (step S1 e1 h1) fun w H2 ⟨ρ2, G2, y, p2, s2, S2, e2, r2, h2⟩ => ?_
  have r1 := r1.mono p2 s2
  cases r1 with
  | int i =>
    cases r2 with
    | int j =>
      have h2 : Post _ _ _ _ (if rgOk i j then R.ok (U.tup ((rgI i j).map .int)) G2 else .bad) _ _ := h2
      by_cases hr : rgOk i j
      · rw [if_pos hr] at h2
        refine ⟨i, j, rfl, rfl, hr, ?_⟩
        rw [rgV_eq]
        exact newTup S2 (RUs.ints _) h2
      · rw [if_neg hr] at h2; exact h2.elim
    | _ => exact h2.elim
  | _ => cases r2 <;> exact h2.elim
end
/-! str(i), str(x) -/
def bStr (us : List U) (G : Gp) : R U := match us with
  | [.int i] => if i.natAbs.log2 < 1920 then .ok (.str (toString i : String)) G else .bad
  | _ => .bad
theorem oStr {K : KZ} : OpN K (fun xs H Q => ∃ i, xs = [.int i] ∧ i.natAbs.log2 < 1920 ∧ Q (.str (toString i : String)) H) bStr := by
  intro ρ G H us vs Q E S r h
  unfold bStr at h
  split at h
  · rename_i i
    obtain ⟨v, rfl, rv⟩ := r.one
    cases rv
    by_cases hz : i.natAbs.log2 < 1920
    · rw [if_pos hz] at h; exact ⟨i, rfl, hz, h.end_ S (.str _)⟩
    · rw [if_neg hz] at h; exact h.elim
  · exact h.elim
section
variable {X : Cx} {Z : ZZ X.K} {W : WX} {e : Expr} {fa : Ev → Gp → R (List U)} {p pos : Pos}
theorem fcstr (hm : X.mg "str" = none) (ha : FA X Z W [e] fa) (hg : Gl X "str" := by rfl) (he : starEach [e] X.env = (false, eval e X.env) :: starEach [] X.env := by rfl) (hpl : (backTo pos (starEach [] X.env)).any (·.1) = false := by rfl) : FE X Z W (.Call (.Name "str" p) [e] [] pos) (eCall bStr fa) :=
  fcallTy oStr call_str_int hg hm (by decide +kernel) ha (by decide) (by decide) he hpl
end
/-! < and <= of texts and of tuples of ints -/
def gLtA (x y : U) (G : Gp) : R U := match x, y with
  | .int i, .int j => .ok (.bl (decide (i < j))) G
  | .str a, .str b => .ok (.bl (decide (a.cps.toList < b.cps.toList))) G
  | .tup a, .tup b => match intsU a, intsU b with
    | some ns, some ms => .ok (.bl (HT.lexLt ns ms)) G
    | _, _ => .bad
  | _, _ => .bad
def leI : List Int → List Int → Bool
  | [], _ => true
  | _ :: _, [] => false
  | x :: xs, y :: ys => if x = y then leI xs ys else decide (x ≤ y)
def gLeA (x y : U) (G : Gp) : R U := match x, y with
  | .int i, .int j => .ok (.bl (decide (i ≤ j))) G
  | .str a, .str b => .ok (.bl (!decide (b.cps.toList < a.cps.toList))) G
  | .tup a, .tup b => match intsU a, intsU b with
    | some ns, some ms => .ok (.bl (leI ns ms)) G
    | _, _ => .bad
  | _, _ => .bad
def gGtA (x y : U) (G : Gp) : R U := match x, y with
  | .int i, .int j => .ok (.bl (decide (j < i))) G
  | .str a, .str b => .ok (.bl (decide (b.cps.toList < a.cps.toList))) G
  | _, _ => .bad
def gGeA (x y : U) (G : Gp) : R U := match x, y with
  | .int i, .int j => .ok (.bl (decide (j ≤ i))) G
  | .str a, .str b => .ok (.bl (!decide (a.cps.toList < b.cps.toList))) G
  | _, _ => .bad
def rLtA (K : PySem.W.Frag) : R2 := fun x y H Q => rI0 (fun i j => .bl (decide (i < j))) x y H Q ∨ ((∃ i j, x = .str i ∧ y = .str j ∧ Q (.bl (decide (i.cps.toList < j.cps.toList))) H) ∨ rLtT K x y H Q)
def rLeA (K : PySem.W.Frag) : R2 := fun x y H Q => rI0 (fun i j => .bl (decide (i ≤ j))) x y H Q ∨ ((∃ i j, x = .str i ∧ y = .str j ∧ Q (.bl (!decide (j.cps.toList < i.cps.toList))) H) ∨ rLeT K x y H Q)
def rGtA : R2 := fun x y H Q => rI0 (fun i j => .bl (decide (j < i))) x y H Q ∨ (∃ i j, x = .str i ∧ y = .str j ∧ Q (.bl (decide (j.cps.toList < i.cps.toList))) H)
def rGeA : R2 := fun x y H Q => rI0 (fun i j => .bl (decide (j ≤ i))) x y H Q ∨ (∃ i j, x = .str i ∧ y = .str j ∧ Q (.bl (!decide (i.cps.toList < j.cps.toList))) H)
theorem orLtA {X : Cx} (hu : X.A.units + 64 < cLine) : OpR X (compareOp .Lt) (rLtA X.K) := op_lt.or (op_lt_str.or (op_ltT (by omega)))
theorem orLeA {X : Cx} (hu : X.A.units + 64 < cLine) : OpR X (compareOp .LtE) (rLeA X.K) := op_le.or (op_le_str.or (op_leT (by omega)))
theorem orGtA {X : Cx} : OpR X (compareOp .Gt) rGtA := op_gt.or op_gt_str
theorem orGeA {X : Cx} : OpR X (compareOp .GtE) rGeA := op_ge.or op_ge_str
theorem lexAt_leI : ∀ (ns ms : List Int) (k : Nat) (f g : Nat → Bool), (∀ j, f (k + j) = decide (ns.getD j 0 = ms.getD j 0)) → (∀ j, g (k + j) = decide (ns.getD j 0 ≤ ms.getD j 0)) → Ob.lexAt f g (decide (ns.length ≤ ms.length)) k (min ns.length ms.length) = leI ns ms
  | [], ms, k, f, g, h1, h2 => by
    rw [show min ([] : List Int).length ms.length = 0 by simp, Ob.lexAt_zero]
    simp [leI]
  | x :: xs, [], k, f, g, h1, h2 => by
    rw [show min (x :: xs).length ([] : List Int).length = 0 by simp, Ob.lexAt_zero]
    simp [leI]
  | x :: xs, y :: ys, k, f, g, h1, h2 => by
    rw [show min (x :: xs).length (y :: ys).length = min xs.length ys.length + 1 by simp only [List.length_cons]; omega, Ob.lexAt_succ]
    have e1 := h1 0
    have e2 := h2 0
    simp only [Nat.add_zero, List.getD_cons_zero] at e1 e2
    have ih := lexAt_leI xs ys (k + 1) f g (fun j => by have := h1 (j + 1); simpa [Nat.add_assoc, Nat.add_comm 1 j] using this) (fun j => by have := h2 (j + 1); simpa [Nat.add_assoc, Nat.add_comm 1 j] using this)
    have hl : decide ((x :: xs).length ≤ (y :: ys).length) = decide (xs.length ≤ ys.length) := by simp
    rw [e1, e2, hl, ih, show leI (x :: xs) (y :: ys) = if x = y then leI xs ys else decide (x ≤ y) from rfl]
    by_cases hx : x = y
    · simp [hx]
    · simp [hx]
theorem leI_lt : ∀ ns ms : List Int, leI ns ms = !HT.lexLt ms ns
  | [], [] => rfl
  | [], _ :: _ => rfl
  | _ :: _, [] => rfl
  | x :: xs, y :: ys => by
    unfold leI HT.lexLt
    by_cases h : x = y
    · rw [if_pos h, if_pos h.symm, leI_lt xs ys]
    · rw [if_neg h, if_neg (Ne.symm h)]
      by_cases h2 : x ≤ y
      · rw [decide_eq_true h2, decide_eq_false (by omega)]; rfl
      · rw [decide_eq_false h2, decide_eq_true (by omega)]; rfl
section
variable {K : KZ}
theorem o2LtA : Op2 K (rLtA K.K) gLtA := by
  intro ρ G H x y v w Q E S rx ry h
  cases rx with
  | int i =>
    cases ry with
    | int j => exact .inl ⟨i, j, rfl, rfl, h.end_ S (.bl _)⟩
    | _ => exact h.elim
  | str a =>
    cases ry with
    | str b => exact .inr (.inl ⟨a, b, rfl, rfl, h.end_ S (.bl _)⟩)
    | _ => exact h.elim
  | @tup xs vs a ha hr =>
    cases ry with
    | @tup ys ws b hb hq =>
      unfold gLtA at h
      simp only at h
      cases q1 : intsU xs with
      | none => rw [q1] at h; exact h.elim
      | some ns =>
        cases q2 : intsU ys with
        | none => rw [q1, q2] at h; exact h.elim
        | some ms =>
          rw [q1, q2] at h
          have e1 := intsU_rel hr q1
          have e2 := intsU_rel hq q2
          subst e1 e2
          exact .inr (.inr ⟨a, b, ns, ms, rfl, rfl, ha.sq, hb.sq, h.end_ S (.bl _)⟩)
    | _ => exact h.elim
  | _ => exact h.elim
theorem o2LeA : Op2 K (rLeA K.K) gLeA := by
  intro ρ G H x y v w Q E S rx ry h
  cases rx with
  | int i =>
    cases ry with
    | int j => exact .inl ⟨i, j, rfl, rfl, h.end_ S (.bl _)⟩
    | _ => exact h.elim
  | str a =>
    cases ry with
    | str b => exact .inr (.inl ⟨a, b, rfl, rfl, h.end_ S (.bl _)⟩)
    | _ => exact h.elim
  | @tup xs vs a ha hr =>
    cases ry with
    | @tup ys ws b hb hq =>
      unfold gLeA at h
      simp only at h
      cases q1 : intsU xs with
      | none => rw [q1] at h; exact h.elim
      | some ns =>
        cases q2 : intsU ys with
        | none => rw [q1, q2] at h; exact h.elim
        | some ms =>
          rw [q1, q2] at h
          have e1 := intsU_rel hr q1
          have e2 := intsU_rel hq q2
          subst e1 e2
          refine .inr (.inr ⟨a, b, ns, ms, rfl, rfl, ha.sq, hb.sq, ?_⟩)
          rw [lexAt_leI ns ms 0 _ _ (fun j => by rw [Nat.zero_add]) (fun j => by rw [Nat.zero_add])]
          exact h.end_ S (.bl _)
    | _ => exact h.elim
  | _ => exact h.elim
theorem o2GtA : Op2 K rGtA gGtA := by
  intro ρ G H x y v w Q E S rx ry h
  cases rx with
  | int i =>
    cases ry with
    | int j => exact .inl ⟨i, j, rfl, rfl, h.end_ S (.bl _)⟩
    | _ => exact h.elim
  | str a =>
    cases ry with
    | str b => exact .inr ⟨a, b, rfl, rfl, h.end_ S (.bl _)⟩
    | _ => exact h.elim
  | _ => cases ry <;> exact h.elim
theorem o2GeA : Op2 K rGeA gGeA := by
  intro ρ G H x y v w Q E S rx ry h
  cases rx with
  | int i =>
    cases ry with
    | int j => exact .inl ⟨i, j, rfl, rfl, h.end_ S (.bl _)⟩
    | _ => exact h.elim
  | str a =>
    cases ry with
    | str b => exact .inr ⟨a, b, rfl, rfl, h.end_ S (.bl _)⟩
    | _ => exact h.elim
  | _ => cases ry <;> exact h.elim
end
section
variable {X : Cx} {Z : ZZ X.K} {W : WX} {a b : Expr} {fa fb : Ev → Gp → R U} {pos : Pos}
theorem fltA (hu : X.A.units + 64 < cLine) (ha : FE X Z W a fa) (hb : FE X Z W b fb) : FE X Z W (.Compare a [.Lt] [b] pos) (eBin gLtA fa fb) := fcmp o2LtA (orLtA hu) ha hb (nomark _)
theorem fleA (hu : X.A.units + 64 < cLine) (ha : FE X Z W a fa) (hb : FE X Z W b fb) : FE X Z W (.Compare a [.LtE] [b] pos) (eBin gLeA fa fb) := fcmp o2LeA (orLeA hu) ha hb (nomark _)
theorem fgtA (hu : X.A.units + 64 < cLine) (ha : FE X Z W a fa) (hb : FE X Z W b fb) : FE X Z W (.Compare a [.Gt] [b] pos) (eBin gGtA fa fb) := fcmp o2GtA orGtA ha hb (nomark _)
theorem fgeA (hu : X.A.units + 64 < cLine) (ha : FE X Z W a fa) (hb : FE X Z W b fb) : FE X Z W (.Compare a [.GtE] [b] pos) (eBin gGeA fa fb) := fcmp o2GeA orGeA ha hb (nomark _)
theorem tltA (hu : X.A.units + 64 < cLine) (ha : FE X Z W a fa) (hb : FE X Z W b fb) : FT X Z W (.Compare a [.Lt] [b] pos) (bVal (eBin gLtA fa fb)) := ft_cmp o2LtA (orLtA hu) ha hb (nomark _)
theorem tleA (hu : X.A.units + 64 < cLine) (ha : FE X Z W a fa) (hb : FE X Z W b fb) : FT X Z W (.Compare a [.LtE] [b] pos) (bVal (eBin gLeA fa fb)) := ft_cmp o2LeA (orLeA hu) ha hb (nomark _)
theorem tgtA (hu : X.A.units + 64 < cLine) (ha : FE X Z W a fa) (hb : FE X Z W b fb) : FT X Z W (.Compare a [.Gt] [b] pos) (bVal (eBin gGtA fa fb)) := ft_cmp o2GtA orGtA ha hb (nomark _)
theorem tgeA (hu : X.A.units + 64 < cLine) (ha : FE X Z W a fa) (hb : FE X Z W b fb) : FT X Z W (.Compare a [.GtE] [b] pos) (bVal (eBin gGeA fa fb)) := ft_cmp o2GeA orGeA ha hb (nomark _)
end
/-! a list or a tuple, unpacked -/
section
variable {X : Cx} {Z : ZZ X.K} {es : List Expr} {pos : Pos}
theorem fgsq {k n : Nat} {gs : List U → Ev → Gp → R Ev} (hc : X.calm = true) (h : FGs X Z es gs) (hn : (assignEach es X.env).length = n := by rfl) (hst : (assignEach es X.env).findIdx? (·.1) = none := by rfl) : FG X Z (.Tuple es k pos) (gSq gs n) := by
  refine PGimp (PG.or (pg_tup hc h hn hst) (pg_unl hc h hn hst)) fun v σ H Q ⟨ρ, G, env, u, S, e, r, h⟩ => ?_
  cases r with
  | @tup xs vs a ht hr =>
    have h : Post (kz X Z) (REq (kz X Z)) ρ H (if xs.length = n then gs xs env G else .bad) Q (fun _ _ _ => False) := h
    by_cases hl : xs.length = n
    · rw [if_pos hl] at h
      exact .inl ⟨a, vs, rfl, ht.sq, by rw [← hr.len]; exact hl, ρ, G, env, xs, S, e, hr, h⟩
    · rw [if_neg hl] at h; exact h.elim
  | @ref l a ha =>
    unfold gSq at h
    simp only at h
    cases q : G[l]? with
    | none => rw [q] at h; exact h.elim
    | some ob =>
      rw [q] at h
      cases ob with
      | lst xs =>
        simp only at h
        obtain ⟨vs, e1, hr⟩ := S.list ha q
        by_cases hl : xs.length = n
        · rw [if_pos hl] at h
          exact .inr ⟨a, vs, rfl, SqL.of e1, by rw [← hr.len]; exact hl, ρ, G, env, xs, S, e, hr, h⟩
        · rw [if_neg hl] at h; exact h.elim
      | _ => exact h.elim
  | _ => exact h.elim
theorem nxSq {gs : List U → Ev → Gp → R Ev} {n : Nat} (h : ∀ us env G c fs G', gs us env G ≠ .exc c fs G') : NoX (gSq gs n) := by
  intro u env G c fs G' e
  unfold gSq at e
  split at e
  · split at e
    · exact h _ _ _ _ _ _ e
    · exact nomatch e
  · split at e
    · split at e
      · exact h _ _ _ _ _ _ e
      · exact nomatch e
    · exact nomatch e
  · exact nomatch e
end
/-! isinstance(e, ValueError) of the handled error -/
def veB (t : List (Str × List Str)) (K : PySem.W.Frag) : Bool := (t.map (·.1)).all fun c => decide (PySem.W.kitOne K (.ref (He.ga K c)) (.type "ValueError") = some true)
theorem veB_ok {t : List (Str × List Str)} {K : PySem.W.Frag} (h : veB t K = true) : ∀ c ∈ t.map (·.1), PySem.W.kitOne K (.ref (He.ga K c)) (.type "ValueError") = some true := fun c hc => of_decide_eq_true (List.all_eq_true.mp h c hc)
theorem clsTyS {X : Cx} {a : Addr} {oe : Obj} {pn : List (Addr × Obj)} {p2 : Pos} (hm : X.mg "ValueError" = none) (hg : Gl X "ValueError" := by rfl) : PE (SuX X a oe pn) (.Name "ValueError" p2) (tC (.ty "ValueError")) := pe_bltn (X := SuX X a oe pn) hg hm (by decide +kernel) rfl (by decide) (by decide)
end FL

set_option Elab.async false
set_option linter.all false
set_option maxRecDepth 100000
set_option maxHeartbeats 4000000
set_option autoImplicit false
/-! what holds behind: the mirrors gone through forwards; what comes behind is told by constants (K..), which simp opens when it comes to them -/
namespace FL
open PySem PySem.Spec L2
abbrev XP := Str → List (Str × U) → Gp → Prop
def noX : XP := fun _ _ _ => False
def Wp {α : Type} (r : R α) (P : α → Gp → Prop) (E : XP) : Prop := match r with
  | .ok a G => P a G
  | .exc c fs G => E c fs G
  | .bad => False
structure Qs where
  nx : Ev → Gp → Prop
  rt : U → Gp → Prop
  bk : Ev → Gp → Prop
  ct : Ev → Gp → Prop
  ex : Str → List (Str × U) → Ev → Gp → Prop
def Ws (r : SR) (Q : Qs) : Prop := match r with
  | .nx e G => Q.nx e G
  | .ret u G => Q.rt u G
  | .brk e G => Q.bk e G
  | .ct e G => Q.ct e G
  | .exc c fs e G => Q.ex c fs e G
  | .bad => False
section
variable {α β : Type} {env : Ev} {G : Gp} {P : α → Gp → Prop} {E : XP} {Q : Qs}
@[simp] theorem noX_ (c : Str) (fs : List (Str × U)) : noX c fs G ↔ False := ⟨id, id⟩
@[simp ↓] theorem Wp_ok (a : α) : Wp (.ok a G) P E ↔ P a G := ⟨id, id⟩
@[simp ↓] theorem Wp_exc (c : Str) (fs : List (Str × U)) : Wp (.exc c fs G : R α) P E ↔ E c fs G := ⟨id, id⟩
@[simp ↓] theorem Wp_bad : Wp (.bad : R α) P E ↔ False := ⟨id, id⟩
@[simp ↓] theorem Ws_nx (e : Ev) : Ws (.nx e G) Q ↔ Q.nx e G := ⟨id, id⟩
@[simp ↓] theorem Ws_ret (u : U) : Ws (.ret u G) Q ↔ Q.rt u G := ⟨id, id⟩
@[simp ↓] theorem Ws_brk (e : Ev) : Ws (.brk e G) Q ↔ Q.bk e G := ⟨id, id⟩
@[simp ↓] theorem Ws_ct (e : Ev) : Ws (.ct e G) Q ↔ Q.ct e G := ⟨id, id⟩
@[simp ↓] theorem Ws_exc (c : Str) (fs : List (Str × U)) (e : Ev) : Ws (.exc c fs e G) Q ↔ Q.ex c fs e G := ⟨id, id⟩
@[simp ↓] theorem Ws_bad : Ws .bad Q ↔ False := ⟨id, id⟩
theorem Wp.mono {r : R α} {P' : α → Gp → Prop} {E' : XP} (h : Wp r P E) (i : ∀ a G, P a G → P' a G) (j : ∀ c fs G, E c fs G → E' c fs G) : Wp r P' E' := by
  cases r with
  | ok a G => exact i _ _ h
  | exc c fs G => exact j _ _ _ h
  | bad => exact h
theorem Wp.imp {r : R α} {P' : α → Gp → Prop} (h : Wp r P E) (i : ∀ a G, P a G → P' a G) : Wp r P' E := h.mono i fun _ _ _ z => z
theorem Wp.nox {r : R α} {E' : XP} {P' : α → Gp → Prop} (h : Wp r P noX) (i : ∀ a G, P a G → P' a G) : Wp r P' E' := h.mono i fun _ _ _ z => False.elim z
theorem Wp_of {r : R α} {a : α} {G' : Gp} (h : r = .ok a G') (p : P a G') : Wp r P E := by rw [h]; exact p
theorem Wp.ok {r : R α} (h : Wp r P noX) : ∃ a G', r = .ok a G' ∧ P a G' := by
  cases r with
  | ok a G => exact ⟨a, G, rfl, h⟩
  | exc c fs G => exact False.elim h
  | bad => exact False.elim h
theorem Ws.mono {r : SR} {Q' : Qs} (h : Ws r Q) (h1 : ∀ e G, Q.nx e G → Q'.nx e G) (h2 : ∀ u G, Q.rt u G → Q'.rt u G) (h3 : ∀ e G, Q.bk e G → Q'.bk e G) (h4 : ∀ e G, Q.ct e G → Q'.ct e G) (h5 : ∀ c fs e G, Q.ex c fs e G → Q'.ex c fs e G) : Ws r Q' := by
  cases r with
  | nx e G => exact h1 _ _ h
  | ret u G => exact h2 _ _ h
  | brk e G => exact h3 _ _ h
  | ct e G => exact h4 _ _ h
  | exc c fs e G => exact h5 _ _ _ _ h
  | bad => exact h
theorem Wp_bind (r : R β) (k : β → Gp → R α) : Wp (r.bind k) P E ↔ Wp r (fun a G => Wp (k a G) P E) E := by cases r <;> exact ⟨id, id⟩
theorem Wp_bindN (r : R β) (k : β → Gp → R α) : Wp (r.bindN k) P E ↔ Wp r (fun a G => Wp (k a G) P E) noX := by cases r <;> exact ⟨id, id⟩
theorem Ws_andThen (r : R β) (k : β → Gp → SR) : Ws (r.andThen env k) Q ↔ Wp r (fun a G => Ws (k a G) Q) (fun c fs G => Q.ex c fs env G) := by cases r <;> exact ⟨id, id⟩
theorem ixN_nat' {n i : Nat} (h : i < n) : ixN n (i : Int) = some i := by unfold ixN; rw [if_pos (by omega), if_pos (by omega)]; rfl
theorem if_iff {c : Prop} [Decidable c] {a : α} : Wp (if c then .ok a G else .bad) P E ↔ c ∧ P a G := by
  by_cases h : c
  · rw [if_pos h]; exact ⟨fun z => ⟨h, z⟩, fun z => z.2⟩
  · rw [if_neg h]; exact ⟨fun z => False.elim z, fun z => absurd z.1 h⟩
end
/-! continuations -/
abbrev PUt := U → Gp → Prop
abbrev PLt := List U → Gp → Prop
abbrev PBt := Bool → Gp → Prop
abbrev PEt := Ev → Gp → Prop
abbrev POt := Option Int → Gp → Prop
abbrev FU := Ev → Gp → R U
abbrev FL' := Ev → Gp → R (List U)
abbrev FB := Ev → Gp → R Bool
def K2b (g : U → U → Gp → R U) (x : U) (P : PUt) (E : XP) : PUt := fun y G => Wp (g x y G) P E
def K2a (g : U → U → Gp → R U) (fb : FU) (env : Ev) (P : PUt) (E : XP) : PUt := fun x G => Wp (fb env G) (K2b g x P E) E
def K1 (g : U → Gp → R U) (P : PUt) (E : XP) : PUt := fun x G => Wp (g x G) P E
def KB (P : PBt) : PUt := fun u G => match u with
  | .bl b => P b G
  | _ => False
def KAnd (g : FB) (env : Ev) (P : PBt) (E : XP) : PBt := fun c G => if c = true then Wp (g env G) P E else P false G
def KOr (g : FB) (env : Ev) (P : PBt) (E : XP) : PBt := fun c G => if c = true then P true G else Wp (g env G) P E
def KNot (P : PBt) : PBt := fun c G => P (!c) G
def KEAnd (g : FU) (env : Ev) (P : PUt) (E : XP) : PBt := fun c G => if c = true then Wp (g env G) P E else P (.bl false) G
def KEOr (g : FU) (env : Ev) (P : PUt) (E : XP) : PBt := fun c G => if c = true then P (.bl true) G else Wp (g env G) P E
def KENot (P : PUt) : PBt := fun c G => P (.bl (!c)) G
def KEIf (f g : FU) (env : Ev) (P : PUt) (E : XP) : PBt := fun c G => if c = true then Wp (f env G) P E else Wp (g env G) P E
def KC2 (x : U) (P : PLt) : PLt := fun xs G => P (x :: xs) G
def KC1 (g : FL') (env : Ev) (P : PLt) (E : XP) : PUt := fun x G => Wp (g env G) (KC2 x P) E
def KTup (P : PUt) : PLt := fun xs G => xs.length ≤ 16777216 ∧ P (.tup xs) G
def KLst (P : PUt) : PLt := fun xs G => xs.length ≤ 16777216 ∧ P (.ref G.length) (G ++ [.lst xs])
def KCall (g : List U → Gp → R U) (P : PUt) (E : XP) : PLt := fun us G => Wp (g us G) P E
def KCk2 (F : List U → Gp → R U) (a b : Nat) (idx : List Nat) (us : List U) (P : PUt) (E : XP) : PLt := fun ws G => Wp (F (gK a b idx us ws) G) P E
def KCk1 (F : List U → Gp → R U) (a b : Nat) (idx : List Nat) (fk : FL') (env : Ev) (P : PUt) (E : XP) : PLt := fun us G => Wp (fk env G) (KCk2 F a b idx us P E) E
def KSl3 (x : U) (l : Option Int) (P : PUt) (E : XP) : POt := fun h G => Wp (gSl x l h G) P E
def KSl2 (x : U) (hi : Ev → Gp → R (Option Int)) (env : Ev) (P : PUt) (E : XP) : POt := fun l G => Wp (hi env G) (KSl3 x l P E) E
def KSl1 (lo hi : Ev → Gp → R (Option Int)) (env : Ev) (P : PUt) (E : XP) : PUt := fun x G => Wp (lo env G) (KSl2 x hi env P E) E
def KInt (P : POt) : PUt := fun u G => match u with
  | .int i => P (some i) G
  | _ => False
def KIs (tbl : List (String × Bool)) (P : PUt) (E : XP) : PUt := fun u G => Wp (isRes tbl u G) P E
def KCh4 (g' : U → U → Gp → R U) (y : U) (P : PUt) (E : XP) : PUt := fun z G => Wp (g' y z G) P E
def KCh3 (g' : U → U → Gp → R U) (fc : FU) (y : U) (env : Ev) (P : PUt) (E : XP) : PBt := fun k G => if k = true then Wp (fc env G) (KCh4 g' y P E) E else P (.bl false) G
def KCh2 (g g' : U → U → Gp → R U) (fc : FU) (x : U) (env : Ev) (P : PUt) (E : XP) : PUt := fun y G => Wp (g x y G) (KB (KCh3 g' fc y env P E)) E
def KCh1 (g g' : U → U → Gp → R U) (fb fc : FU) (env : Ev) (P : PUt) (E : XP) : PUt := fun x G => Wp (fb env G) (KCh2 g g' fc x env P E) E
def KMe2 (g : U → List U → Gp → R U) (o : U) (P : PUt) (E : XP) : PLt := fun us G => Wp (g o us G) P E
def KMe1 (g : U → List U → Gp → R U) (fa : FL') (env : Ev) (P : PUt) (E : XP) : PUt := fun o G => isLst o G = true ∧ Wp (fa env G) (KMe2 g o P E) E
def KMt2 (F : List U → Gp → R U) (l : Nat) (P : PUt) (E : XP) : PLt := fun us G => Wp (F (.ref l :: us) G) P E
def isIns (c m : Str) (G : Gp) (l : Nat) : Prop := ∃ fs, G[l]? = some (.ins c fs) ∧ fs.lookup m = none
def KMt1 (c m : Str) (F : List U → Gp → R U) (fa : FL') (env : Ev) (P : PUt) (E : XP) : PUt := fun o G => match o with
  | .ref l => isIns c m G l ∧ Wp (fa env G) (KMt2 F l P E) E
  | _ => False
def KMk2 (l : Nat) (P : PUt) : PUt := fun u G => match u with
  | .non => P (.ref l) G
  | _ => False
def KMk1 (c : Str) (F : List U → Gp → R U) (P : PUt) (E : XP) : PLt := fun us G => Wp (F (.ref G.length :: us) (G ++ [.ins c []])) (KMk2 G.length P) E
def KX (env : Ev) (Q : Qs) : XP := fun c fs G => Q.ex c fs env G
def KNx (Q : Qs) : PEt := fun e G => Q.nx e G
def KSeq (g : Ev → Gp → SR) (Q : Qs) : PEt := fun e G => Ws (g e G) Q
def KEx (env : Ev) (Q : Qs) : PUt := fun _ G => Q.nx env G
def KRt (Q : Qs) : PUt := fun u G => Q.rt u G
def KIf (g1 g2 : Ev → Gp → SR) (env : Ev) (Q : Qs) : PBt := fun b G => if b = true then Ws (g1 env G) Q else Ws (g2 env G) Q
def KAs (gf : U → Ev → Gp → R Ev) (env : Ev) (Q : Qs) : PUt := fun u G => Wp (gf u env G) (KNx Q) (KX env Q)
def KAu3 (i : Nat) (env : Ev) (Q : Qs) : PUt := fun z G => Q.nx (env.set i (some z)) G
def KAu2 (i : Nat) (g : U → U → Gp → R U) (x : U) (env : Ev) (Q : Qs) : PUt := fun y G => Wp (g x y G) (KAu3 i env Q) (KX env Q)
def KAu1 (i : Nat) (g : U → U → Gp → R U) (f : FU) (env : Ev) (Q : Qs) : PUt := fun x G => Wp (f env G) (KAu2 i g x env Q) (KX env Q)
def KGc (gs : List U → Ev → Gp → R Ev) (us : List U) (P : PEt) (E : XP) : PEt := fun e G => Wp (gs us e G) P E
def KU (env : Ev) (P : PEt) : Unit → Gp → Prop := fun _ G => P env G
def KGs2 (o v : U) (env : Ev) (P : PEt) : PUt := fun i G => Wp (setU o i v G) (KU env P) noX
def KGs1 (fi : FU) (v : U) (env : Ev) (P : PEt) : PUt := fun o G => Wp (fi env G) (KGs2 o v env P) noX
def KGd2 (t : Bool) (o v : U) (env : Ev) (P : PEt) : PUt := fun i G => Wp (setD t o i v G) (KU env P) noX
def KGd1 (t : Bool) (fi : FU) (v : U) (env : Ev) (P : PEt) : PUt := fun o G => Wp (fi env G) (KGd2 t o v env P) noX
def KPt2 (cs : List Str) (f : Str) (y : U) (env : Ev) (Q : Qs) : PUt := fun o G => match o with
  | .ref l => ∃ c fs, G[l]? = some (.ins c fs) ∧ cs.contains c = true ∧ fs.length < 1000 ∧ Q.nx env (G.set l (.ins c (putU f y fs)))
  | _ => False
def KPt1 (cs : List Str) (f : Str) (fo : FU) (env : Ev) (Q : Qs) : PUt := fun y G => Wp (fo env G) (KPt2 cs f y env Q) (KX env Q)
def KPa4 (cs : List Str) (f : Str) (o : U) (G1 : Gp) (env : Ev) (Q : Qs) : PUt := fun z G => Ws (putIf cs f z o G1 G env) Q
def KPa3 (cs : List Str) (f : Str) (g : U → U → Gp → R U) (x o : U) (G1 : Gp) (env : Ev) (Q : Qs) : PUt := fun y G => Wp (g x y G) (KPa4 cs f o G1 env Q) (KX env Q)
def KPa2 (cs : List Str) (f : Str) (g : U → U → Gp → R U) (fv : FU) (o : U) (env : Ev) (Q : Qs) : PUt := fun x G => Wp (fv env G) (KPa3 cs f g x o G env Q) (KX env Q)
def KPa1 (cs : List Str) (f : Str) (g : U → U → Gp → R U) (fv : FU) (env : Ev) (Q : Qs) : PUt := fun o G => Wp (gFld cs f o G) (KPa2 cs f g fv o env Q) (KX env Q)
def KAs5 (o i : U) (env : Ev) (Q : Qs) : PUt := fun z G => Wp (setU o i z G) (KU env (KNx Q)) noX
def KAs4 (g : U → U → Gp → R U) (o i x : U) (env : Ev) (Q : Qs) : PUt := fun y G => Wp (g x y G) (KAs5 o i env Q) (KX env Q)
def KAs3 (g : U → U → Gp → R U) (fv : FU) (o i : U) (env : Ev) (Q : Qs) : PUt := fun x G => Wp (fv env G) (KAs4 g o i x env Q) (KX env Q)
def KAs2 (g : U → U → Gp → R U) (fv : FU) (o : U) (env : Ev) (Q : Qs) : PUt := fun i G => Wp (gIdxL o i G) (KAs3 g fv o i env Q) (KX env Q)
def KAs1 (g : U → U → Gp → R U) (fi fv : FU) (env : Ev) (Q : Qs) : PUt := fun o G => Wp (fi env G) (KAs2 g fv o env Q) (KX env Q)
def KRa (c : Str) (fs : List Str) (env : Ev) (Q : Qs) : PLt := fun us G => us.length = fs.length ∧ Q.ex c (fs.zip us).reverse env G
section
variable {α β : Type} {env : Ev} {G : Gp} {E : XP} {Q : Qs} {P : PUt} {PB : PBt} {PL : PLt} {PE : PEt} {PO : POt}

@[simp ↓] theorem K2b_ (g : U → U → Gp → R U) (x y : U) : K2b g x P E y G ↔ Wp (g x y G) P E := ⟨id, id⟩
@[simp ↓] theorem K2a_ (g : U → U → Gp → R U) (fb : FU) (x : U) : K2a g fb env P E x G ↔ Wp (fb env G) (K2b g x P E) E := ⟨id, id⟩
@[simp ↓] theorem K1_ (g : U → Gp → R U) (x : U) : K1 g P E x G ↔ Wp (g x G) P E := ⟨id, id⟩
@[simp ↓] theorem KB_ (b : Bool) : KB PB (.bl b) G ↔ PB b G := ⟨id, id⟩
theorem KAnd_ (g : FB) (c : Bool) : KAnd g env PB E c G ↔ (c = true → Wp (g env G) PB E) ∧ (c = false → PB false G) := by
  unfold KAnd; cases c <;> simp
theorem KOr_ (g : FB) (c : Bool) : KOr g env PB E c G ↔ (c = true → PB true G) ∧ (c = false → Wp (g env G) PB E) := by
  unfold KOr; cases c <;> simp
theorem KEAnd_ (g : FU) (c : Bool) : KEAnd g env P E c G ↔ (c = true → Wp (g env G) P E) ∧ (c = false → P (.bl false) G) := by
  unfold KEAnd; cases c <;> simp
theorem KEOr_ (g : FU) (c : Bool) : KEOr g env P E c G ↔ (c = true → P (.bl true) G) ∧ (c = false → Wp (g env G) P E) := by
  unfold KEOr; cases c <;> simp
theorem KEIf_ (f g : FU) (c : Bool) : KEIf f g env P E c G ↔ (c = true → Wp (f env G) P E) ∧ (c = false → Wp (g env G) P E) := by
  unfold KEIf; cases c <;> simp
theorem KCh3_ (g' : U → U → Gp → R U) (fc : FU) (y : U) (c : Bool) : KCh3 g' fc y env P E c G ↔ (c = true → Wp (fc env G) (KCh4 g' y P E) E) ∧ (c = false → P (.bl false) G) := by
  unfold KCh3; cases c <;> simp
theorem KIf_ (g1 g2 : Ev → Gp → SR) (c : Bool) : KIf g1 g2 env Q c G ↔ (c = true → Ws (g1 env G) Q) ∧ (c = false → Ws (g2 env G) Q) := by
  unfold KIf; cases c <;> simp
@[simp ↓] theorem KAnd_t (g : FB) : KAnd g env PB E true G ↔ Wp (g env G) PB E := by simp [KAnd_]
@[simp ↓] theorem KAnd_f (g : FB) : KAnd g env PB E false G ↔ PB false G := by simp [KAnd_]
@[simp ↓] theorem KOr_t (g : FB) : KOr g env PB E true G ↔ PB true G := by simp [KOr_]
@[simp ↓] theorem KOr_f (g : FB) : KOr g env PB E false G ↔ Wp (g env G) PB E := by simp [KOr_]
@[simp ↓] theorem KNot_ (c : Bool) : KNot PB c G ↔ PB (!c) G := ⟨id, id⟩
@[simp ↓] theorem KEAnd_t (g : FU) : KEAnd g env P E true G ↔ Wp (g env G) P E := by simp [KEAnd_]
@[simp ↓] theorem KEAnd_f (g : FU) : KEAnd g env P E false G ↔ P (.bl false) G := by simp [KEAnd_]
@[simp ↓] theorem KEOr_t (g : FU) : KEOr g env P E true G ↔ P (.bl true) G := by simp [KEOr_]
@[simp ↓] theorem KEOr_f (g : FU) : KEOr g env P E false G ↔ Wp (g env G) P E := by simp [KEOr_]
@[simp ↓] theorem KENot_ (c : Bool) : KENot P c G ↔ P (.bl (!c)) G := ⟨id, id⟩
@[simp ↓] theorem KEIf_t (f g : FU) : KEIf f g env P E true G ↔ Wp (f env G) P E := by simp [KEIf_]
@[simp ↓] theorem KEIf_f (f g : FU) : KEIf f g env P E false G ↔ Wp (g env G) P E := by simp [KEIf_]
@[simp ↓] theorem KCh3_t (g' : U → U → Gp → R U) (fc : FU) (y : U) : KCh3 g' fc y env P E true G ↔ Wp (fc env G) (KCh4 g' y P E) E := by simp [KCh3_]
@[simp ↓] theorem KCh3_f (g' : U → U → Gp → R U) (fc : FU) (y : U) : KCh3 g' fc y env P E false G ↔ P (.bl false) G := by simp [KCh3_]
@[simp ↓] theorem KIf_t (g1 g2 : Ev → Gp → SR) : KIf g1 g2 env Q true G ↔ Ws (g1 env G) Q := by simp [KIf_]
@[simp ↓] theorem KIf_f (g1 g2 : Ev → Gp → SR) : KIf g1 g2 env Q false G ↔ Ws (g2 env G) Q := by simp [KIf_]
@[simp ↓] theorem KC2_ (x : U) (xs : List U) : KC2 x PL xs G ↔ PL (x :: xs) G := ⟨id, id⟩
@[simp ↓] theorem KC1_ (g : FL') (x : U) : KC1 g env PL E x G ↔ Wp (g env G) (KC2 x PL) E := ⟨id, id⟩
@[simp ↓] theorem KTup_ (xs : List U) : KTup P xs G ↔ xs.length ≤ 16777216 ∧ P (.tup xs) G := ⟨id, id⟩
@[simp ↓] theorem KLst_ (xs : List U) : KLst P xs G ↔ xs.length ≤ 16777216 ∧ P (.ref G.length) (G ++ [.lst xs]) := ⟨id, id⟩
@[simp ↓] theorem KCall_ (g : List U → Gp → R U) (us : List U) : KCall g P E us G ↔ Wp (g us G) P E := ⟨id, id⟩
@[simp ↓] theorem KCk2_ (F : List U → Gp → R U) (a b : Nat) (idx : List Nat) (us ws : List U) : KCk2 F a b idx us P E ws G ↔ Wp (F (gK a b idx us ws) G) P E := ⟨id, id⟩
@[simp ↓] theorem KCk1_ (F : List U → Gp → R U) (a b : Nat) (idx : List Nat) (fk : FL') (us : List U) : KCk1 F a b idx fk env P E us G ↔ Wp (fk env G) (KCk2 F a b idx us P E) E := ⟨id, id⟩
@[simp ↓] theorem KSl3_ (x : U) (l h : Option Int) : KSl3 x l P E h G ↔ Wp (gSl x l h G) P E := ⟨id, id⟩
@[simp ↓] theorem KSl2_ (x : U) (hi : Ev → Gp → R (Option Int)) (l : Option Int) : KSl2 x hi env P E l G ↔ Wp (hi env G) (KSl3 x l P E) E := ⟨id, id⟩
@[simp ↓] theorem KSl1_ (lo hi : Ev → Gp → R (Option Int)) (x : U) : KSl1 lo hi env P E x G ↔ Wp (lo env G) (KSl2 x hi env P E) E := ⟨id, id⟩
@[simp ↓] theorem KInt_ (i : Int) : KInt PO (.int i) G ↔ PO (some i) G := ⟨id, id⟩
@[simp ↓] theorem KIs_ (tbl : List (String × Bool)) (u : U) : KIs tbl P E u G ↔ Wp (isRes tbl u G) P E := ⟨id, id⟩
@[simp ↓] theorem KCh4_ (g' : U → U → Gp → R U) (y z : U) : KCh4 g' y P E z G ↔ Wp (g' y z G) P E := ⟨id, id⟩
@[simp ↓] theorem KCh2_ (g g' : U → U → Gp → R U) (fc : FU) (x y : U) : KCh2 g g' fc x env P E y G ↔ Wp (g x y G) (KB (KCh3 g' fc y env P E)) E := ⟨id, id⟩
@[simp ↓] theorem KCh1_ (g g' : U → U → Gp → R U) (fb fc : FU) (x : U) : KCh1 g g' fb fc env P E x G ↔ Wp (fb env G) (KCh2 g g' fc x env P E) E := ⟨id, id⟩
@[simp ↓] theorem KMe2_ (g : U → List U → Gp → R U) (o : U) (us : List U) : KMe2 g o P E us G ↔ Wp (g o us G) P E := ⟨id, id⟩
@[simp ↓] theorem KMe1_ (g : U → List U → Gp → R U) (fa : FL') (o : U) : KMe1 g fa env P E o G ↔ isLst o G = true ∧ Wp (fa env G) (KMe2 g o P E) E := ⟨id, id⟩
@[simp ↓] theorem KMt2_ (F : List U → Gp → R U) (l : Nat) (us : List U) : KMt2 F l P E us G ↔ Wp (F (.ref l :: us) G) P E := ⟨id, id⟩
@[simp ↓] theorem KMt1_ (c m : Str) (F : List U → Gp → R U) (fa : FL') (l : Nat) : KMt1 c m F fa env P E (.ref l) G ↔ isIns c m G l ∧ Wp (fa env G) (KMt2 F l P E) E := ⟨id, id⟩
@[simp ↓] theorem KMk2_ (l : Nat) : KMk2 l P .non G ↔ P (.ref l) G := ⟨id, id⟩
@[simp ↓] theorem KMk1_ (c : Str) (F : List U → Gp → R U) (us : List U) : KMk1 c F P E us G ↔ Wp (F (.ref G.length :: us) (G ++ [.ins c []])) (KMk2 G.length P) E := ⟨id, id⟩
@[simp ↓] theorem KX_ (c : Str) (fs : List (Str × U)) : KX env Q c fs G ↔ Q.ex c fs env G := ⟨id, id⟩
@[simp ↓] theorem KNx_ (e : Ev) : KNx Q e G ↔ Q.nx e G := ⟨id, id⟩
@[simp ↓] theorem KSeq_ (g : Ev → Gp → SR) (e : Ev) : KSeq g Q e G ↔ Ws (g e G) Q := ⟨id, id⟩
@[simp ↓] theorem KEx_ (u : U) : KEx env Q u G ↔ Q.nx env G := ⟨id, id⟩
@[simp ↓] theorem KRt_ (u : U) : KRt Q u G ↔ Q.rt u G := ⟨id, id⟩
@[simp ↓] theorem KAs_ (gf : U → Ev → Gp → R Ev) (u : U) : KAs gf env Q u G ↔ Wp (gf u env G) (KNx Q) (KX env Q) := ⟨id, id⟩
@[simp ↓] theorem KAu3_ (i : Nat) (z : U) : KAu3 i env Q z G ↔ Q.nx (env.set i (some z)) G := ⟨id, id⟩
@[simp ↓] theorem KAu2_ (i : Nat) (g : U → U → Gp → R U) (x y : U) : KAu2 i g x env Q y G ↔ Wp (g x y G) (KAu3 i env Q) (KX env Q) := ⟨id, id⟩
@[simp ↓] theorem KAu1_ (i : Nat) (g : U → U → Gp → R U) (f : FU) (x : U) : KAu1 i g f env Q x G ↔ Wp (f env G) (KAu2 i g x env Q) (KX env Q) := ⟨id, id⟩
@[simp ↓] theorem KGc_ (gs : List U → Ev → Gp → R Ev) (us : List U) (e : Ev) : KGc gs us PE E e G ↔ Wp (gs us e G) PE E := ⟨id, id⟩
@[simp ↓] theorem KU_ (x : Unit) : KU env PE x G ↔ PE env G := ⟨id, id⟩
@[simp ↓] theorem KGs2_ (o v i : U) : KGs2 o v env PE i G ↔ Wp (setU o i v G) (KU env PE) noX := ⟨id, id⟩
@[simp ↓] theorem KGs1_ (fi : FU) (v o : U) : KGs1 fi v env PE o G ↔ Wp (fi env G) (KGs2 o v env PE) noX := ⟨id, id⟩
@[simp ↓] theorem KGd2_ (t : Bool) (o v i : U) : KGd2 t o v env PE i G ↔ Wp (setD t o i v G) (KU env PE) noX := ⟨id, id⟩
@[simp ↓] theorem KGd1_ (t : Bool) (fi : FU) (v o : U) : KGd1 t fi v env PE o G ↔ Wp (fi env G) (KGd2 t o v env PE) noX := ⟨id, id⟩
@[simp ↓] theorem KPt2_ (cs : List Str) (f : Str) (y : U) (l : Nat) : KPt2 cs f y env Q (.ref l) G ↔ ∃ c fs, G[l]? = some (.ins c fs) ∧ cs.contains c = true ∧ fs.length < 1000 ∧ Q.nx env (G.set l (.ins c (putU f y fs))) := ⟨id, id⟩
@[simp ↓] theorem KPt1_ (cs : List Str) (f : Str) (fo : FU) (y : U) : KPt1 cs f fo env Q y G ↔ Wp (fo env G) (KPt2 cs f y env Q) (KX env Q) := ⟨id, id⟩
@[simp ↓] theorem KPa4_ (cs : List Str) (f : Str) (o z : U) (G1 : Gp) : KPa4 cs f o G1 env Q z G ↔ Ws (putIf cs f z o G1 G env) Q := ⟨id, id⟩
@[simp ↓] theorem KPa3_ (cs : List Str) (f : Str) (g : U → U → Gp → R U) (x o y : U) (G1 : Gp) : KPa3 cs f g x o G1 env Q y G ↔ Wp (g x y G) (KPa4 cs f o G1 env Q) (KX env Q) := ⟨id, id⟩
@[simp ↓] theorem KPa2_ (cs : List Str) (f : Str) (g : U → U → Gp → R U) (fv : FU) (o x : U) : KPa2 cs f g fv o env Q x G ↔ Wp (fv env G) (KPa3 cs f g x o G env Q) (KX env Q) := ⟨id, id⟩
@[simp ↓] theorem KPa1_ (cs : List Str) (f : Str) (g : U → U → Gp → R U) (fv : FU) (o : U) : KPa1 cs f g fv env Q o G ↔ Wp (gFld cs f o G) (KPa2 cs f g fv o env Q) (KX env Q) := ⟨id, id⟩
@[simp ↓] theorem KAs5_ (o i z : U) : KAs5 o i env Q z G ↔ Wp (setU o i z G) (KU env (KNx Q)) noX := ⟨id, id⟩
@[simp ↓] theorem KAs4_ (g : U → U → Gp → R U) (o i x y : U) : KAs4 g o i x env Q y G ↔ Wp (g x y G) (KAs5 o i env Q) (KX env Q) := ⟨id, id⟩
@[simp ↓] theorem KAs3_ (g : U → U → Gp → R U) (fv : FU) (o i x : U) : KAs3 g fv o i env Q x G ↔ Wp (fv env G) (KAs4 g o i x env Q) (KX env Q) := ⟨id, id⟩
@[simp ↓] theorem KAs2_ (g : U → U → Gp → R U) (fv : FU) (o i : U) : KAs2 g fv o env Q i G ↔ Wp (gIdxL o i G) (KAs3 g fv o i env Q) (KX env Q) := ⟨id, id⟩
@[simp ↓] theorem KAs1_ (g : U → U → Gp → R U) (fi fv : FU) (o : U) : KAs1 g fi fv env Q o G ↔ Wp (fi env G) (KAs2 g fv o env Q) (KX env Q) := ⟨id, id⟩
@[simp ↓] theorem KRa_ (c : Str) (fs : List Str) (us : List U) : KRa c fs env Q us G ↔ us.length = fs.length ∧ Q.ex c (fs.zip us).reverse env G := ⟨id, id⟩
/-! expressions -/
@[simp ↓] theorem Wp_eC (u : U) : Wp (eC u env G) P E ↔ P u G := ⟨id, id⟩
theorem Wp_eVar (i : Nat) {u : U} (h : env[i]? = some (some u)) : Wp (eVar i env G) P E ↔ P u G := by
  unfold eVar
  rw [h]
  exact ⟨id, id⟩
@[simp ↓] theorem Wp_eVar0 (x : U) (e : Ev) : Wp (eVar 0 (some x :: e) G) P E ↔ P x G := ⟨id, id⟩
@[simp ↓] theorem Wp_eVarS (i : Nat) (o : Option U) (e : Ev) : Wp (eVar (i + 1) (o :: e) G) P E ↔ Wp (eVar i e G) P E := ⟨id, id⟩
@[simp ↓] theorem Wp_eBin (g : U → U → Gp → R U) (fa fb : FU) : Wp (eBin g fa fb env G) P E ↔ Wp (fa env G) (K2a g fb env P E) E := by
  rw [eBin_, Wp_bind]
  simp only [Wp_bind]
  exact ⟨id, id⟩
@[simp ↓] theorem Wp_eUn (g : U → Gp → R U) (fa : FU) : Wp (eUn g fa env G) P E ↔ Wp (fa env G) (K1 g P E) E := Wp_bind _ _
theorem Wp_asB (r : R U) : Wp (asB r) PB E ↔ Wp r (KB PB) E := by
  show Wp (r.bind _) PB E ↔ _
  rw [Wp_bind]
  cases r with
  | ok u G => cases u <;> exact ⟨id, id⟩
  | _ => exact ⟨id, id⟩
@[simp ↓] theorem Wp_bVal (f : FU) : Wp (bVal f env G) PB E ↔ Wp (f env G) (KB PB) E := Wp_asB _
@[simp ↓] theorem Wp_tAnd (f g : FB) : Wp (tAndB f g env G) PB E ↔ Wp (f env G) (KAnd g env PB E) E := by
  rw [tAndB_, Wp_bind]
  cases f env G with
  | ok c G => cases c <;> exact ⟨id, id⟩
  | _ => exact ⟨id, id⟩
@[simp ↓] theorem Wp_tOr (f g : FB) : Wp (tOrB f g env G) PB E ↔ Wp (f env G) (KOr g env PB E) E := by
  rw [tOrB_, Wp_bind]
  cases f env G with
  | ok c G => cases c <;> exact ⟨id, id⟩
  | _ => exact ⟨id, id⟩
@[simp ↓] theorem Wp_tNot (f : FB) : Wp (tNotB f env G) PB E ↔ Wp (f env G) (KNot PB) E := Wp_bind _ _
@[simp ↓] theorem Wp_tYes : Wp (tYesB env G) PB E ↔ PB true G := ⟨id, id⟩
@[simp ↓] theorem Wp_eAnd (f g : FU) : Wp (eAnd f g env G) P E ↔ Wp (f env G) (KB (KEAnd g env P E)) E := by
  rw [eAnd_, Wp_bind, Wp_asB]
  cases f env G with
  | ok u G => cases u with
    | bl c => cases c <;> exact ⟨id, id⟩
    | _ => exact ⟨id, id⟩
  | _ => exact ⟨id, id⟩
@[simp ↓] theorem Wp_eOr (f g : FU) : Wp (eOr f g env G) P E ↔ Wp (f env G) (KB (KEOr g env P E)) E := by
  rw [eOr_, Wp_bind, Wp_asB]
  cases f env G with
  | ok u G => cases u with
    | bl c => cases c <;> exact ⟨id, id⟩
    | _ => exact ⟨id, id⟩
  | _ => exact ⟨id, id⟩
@[simp ↓] theorem Wp_eNot (f : FU) : Wp (eNot f env G) P E ↔ Wp (f env G) (KB (KENot P)) E := by
  rw [eNot_, Wp_bind, Wp_asB]
  cases f env G with
  | ok u G => cases u <;> exact ⟨id, id⟩
  | _ => exact ⟨id, id⟩
@[simp ↓] theorem Wp_eIf (c : FB) (f g : FU) : Wp (eIf c f g env G) P E ↔ Wp (c env G) (KEIf f g env P E) E := by
  rw [eIf_, Wp_bind]
  cases c env G with
  | ok c G => cases c <;> exact ⟨id, id⟩
  | _ => exact ⟨id, id⟩
@[simp ↓] theorem Wp_aNil : Wp (aNil env G) PL E ↔ PL [] G := ⟨id, id⟩
@[simp ↓] theorem Wp_aCons (f : FU) (g : FL') : Wp (aCons f g env G) PL E ↔ Wp (f env G) (KC1 g env PL E) E := by
  rw [aCons_, Wp_bind]
  simp only [Wp_bind]
  exact ⟨id, id⟩
@[simp ↓] theorem Wp_eTup (g : FL') : Wp (eTup g env G) P E ↔ Wp (g env G) (KTup P) E := by
  rw [eTup_, Wp_bind]
  simp only [if_iff]
  exact ⟨id, id⟩
@[simp ↓] theorem Wp_eLst (g : FL') : Wp (eLst g env G) P E ↔ Wp (g env G) (KLst P) E := by
  rw [eLst_, Wp_bind]
  simp only [if_iff]
  exact ⟨id, id⟩
@[simp ↓] theorem Wp_eCall (g : List U → Gp → R U) (fa : FL') : Wp (eCall g fa env G) P E ↔ Wp (fa env G) (KCall g P E) E := Wp_bind _ _
@[simp ↓] theorem Wp_eCallK (F : List U → Gp → R U) (a b : Nat) (idx : List Nat) (fa fk : FL') : Wp (eCallK F a b idx fa fk env G) P E ↔ Wp (fa env G) (KCk1 F a b idx fk env P E) E := by
  rw [eCallK_, Wp_bind]
  simp only [Wp_bind]
  exact ⟨id, id⟩
@[simp ↓] theorem Wp_eSl (f : FU) (lo hi : Ev → Gp → R (Option Int)) : Wp (eSl f lo hi env G) P E ↔ Wp (f env G) (KSl1 lo hi env P E) E := by
  rw [eSl_, Wp_bind]
  simp only [Wp_bind]
  exact ⟨id, id⟩
@[simp ↓] theorem Wp_pNo : Wp (pNo env G) PO E ↔ PO none G := ⟨id, id⟩
@[simp ↓] theorem Wp_pInt (f : FU) : Wp (pInt f env G) PO E ↔ Wp (f env G) (KInt PO) E := by
  rw [pInt_, Wp_bind]
  cases f env G with
  | ok u G => cases u <;> exact ⟨id, id⟩
  | _ => exact ⟨id, id⟩
@[simp ↓] theorem Wp_eIs (tbl : List (String × Bool)) (f : FU) : Wp (eIs tbl f env G) P E ↔ Wp (f env G) (KIs tbl P E) E := by
  rw [eIs_, Wp_bind]
  exact ⟨id, id⟩
@[simp ↓] theorem Wp_eChain (g g' : U → U → Gp → R U) (fa fb fc : FU) : Wp (eChain g g' fa fb fc env G) P E ↔ Wp (fa env G) (KCh1 g g' fb fc env P E) E := by
  rw [eChain_, Wp_bind]
  refine iff_of_eq (congrArg (fun k => Wp (fa env G) k E) ?_)
  funext x G1
  show _ = Wp (fb env G1) (KCh2 g g' fc x env P E) E
  rw [Wp_bind]
  refine congrArg (fun k => Wp (fb env G1) k E) ?_
  funext y G2
  show _ = Wp (g x y G2) (KB (KCh3 g' fc y env P E)) E
  rw [Wp_bind, Wp_asB]
  cases g x y G2 with
  | ok u G3 =>
    cases u with
    | bl k =>
      cases k with
      | true => exact propext (by simp only [Wp_ok, KB_, if_true, Wp_bind, KCh3_t]; exact ⟨id, id⟩)
      | false => rfl
    | _ => rfl
  | _ => rfl
@[simp ↓] theorem Wp_eMeth (g : U → List U → Gp → R U) (fo : FU) (fa : FL') : Wp (eMeth g fo fa env G) P E ↔ Wp (fo env G) (KMe1 g fa env P E) E := by
  rw [eMeth_, Wp_bind]
  refine iff_of_eq (congrArg (fun k => Wp (fo env G) k E) ?_)
  funext o G1
  show _ = (isLst o G1 = true ∧ Wp (fa env G1) (KMe2 g o P E) E)
  by_cases h : isLst o G1 = true
  · rw [if_pos h, Wp_bind]
    exact propext ⟨fun z => ⟨h, z⟩, fun z => z.2⟩
  · rw [if_neg h]
    exact propext ⟨fun z => False.elim z, fun z => absurd z.1 h⟩
@[simp ↓] theorem Wp_eMth (c m : Str) (F : List U → Gp → R U) (fo : FU) (fa : FL') : Wp (eMth c m F fo fa env G) P E ↔ Wp (fo env G) (KMt1 c m F fa env P E) E := by
  unfold eMth
  rw [Wp_bind]
  refine iff_of_eq (congrArg (fun k => Wp (fo env G) k E) ?_)
  funext o G1
  cases o with
  | ref l =>
    show Wp (match G1[l]? with
      | some (.ins c' fs) => if c' = c ∧ fs.lookup m = none then (fa env G1).bind fun us G2 => F (.ref l :: us) G2 else .bad
      | _ => .bad) P E = (isIns c m G1 l ∧ Wp (fa env G1) (KMt2 F l P E) E)
    unfold isIns
    cases G1[l]? with
    | none => exact propext ⟨fun z => False.elim z, fun ⟨⟨fs, h, _⟩, _⟩ => by cases h⟩
    | some ob => cases ob with
      | ins c' fs =>
        simp only
        by_cases h : c' = c ∧ fs.lookup m = none
        · rw [if_pos h, Wp_bind]
          exact propext ⟨fun z => ⟨⟨fs, by rw [h.1], h.2⟩, z⟩, fun z => z.2⟩
        · rw [if_neg h]
          exact propext ⟨fun z => False.elim z, fun ⟨⟨fs', h1, h2⟩, _⟩ => h (by cases h1; exact ⟨rfl, h2⟩)⟩
      | _ => exact propext ⟨fun z => False.elim z, fun ⟨⟨fs, h, _⟩, _⟩ => by cases h⟩
  | _ => rfl
@[simp ↓] theorem Wp_eMake (c : Str) (F : List U → Gp → R U) (fa : FL') : Wp (eMake c F fa env G) P E ↔ Wp (fa env G) (KMk1 c F P E) E := by
  unfold eMake
  rw [Wp_bind]
  refine iff_of_eq (congrArg (fun k => Wp (fa env G) k E) ?_)
  funext us G1
  show _ = Wp (F (.ref G1.length :: us) (G1 ++ [.ins c []])) (KMk2 G1.length P) E
  rw [Wp_bind]
  refine congrArg (fun k => Wp _ k E) ?_
  funext u G2
  cases u <;> rfl
/-! statements -/
@[simp ↓] theorem Ws_sNil : Ws (sNil env G) Q ↔ Q.nx env G := ⟨id, id⟩
@[simp ↓] theorem Ws_sSeq (g1 g2 : Ev → Gp → SR) : Ws (sSeq g1 g2 env G) Q ↔ Ws (g1 env G) ⟨KSeq g2 Q, Q.rt, Q.bk, Q.ct, Q.ex⟩ := by
  rw [sSeq_]
  cases g1 env G <;> exact ⟨id, id⟩
@[simp ↓] theorem Ws_sExpr (f : FU) : Ws (sExpr f env G) Q ↔ Wp (f env G) (KEx env Q) (KX env Q) := by rw [sExpr_, Ws_andThen]; exact ⟨id, id⟩
@[simp ↓] theorem Ws_sRet (f : FU) : Ws (sRet f env G) Q ↔ Wp (f env G) (KRt Q) (KX env Q) := by rw [sRet_, Ws_andThen]; exact ⟨id, id⟩
@[simp ↓] theorem Ws_sRetN : Ws (sRetN env G) Q ↔ Q.rt .non G := ⟨id, id⟩
@[simp ↓] theorem Ws_sBrk : Ws (sBrk env G) Q ↔ Q.bk env G := ⟨id, id⟩
@[simp ↓] theorem Ws_sCt : Ws (sCt env G) Q ↔ Q.ct env G := ⟨id, id⟩
@[simp ↓] theorem Ws_sIf (c : FB) (g1 g2 : Ev → Gp → SR) : Ws (sIf c g1 g2 env G) Q ↔ Wp (c env G) (KIf g1 g2 env Q) (KX env Q) := by
  rw [sIf_, Ws_andThen]
  cases c env G with
  | ok b G => cases b <;> exact ⟨id, id⟩
  | _ => exact ⟨id, id⟩
@[simp ↓] theorem Ws_sAsg (f : FU) (gf : U → Ev → Gp → R Ev) : Ws (sAsg f gf env G) Q ↔ Wp (f env G) (KAs gf env Q) (KX env Q) := by
  rw [sAsg_, Ws_andThen]
  refine iff_of_eq (congrArg (fun k => Wp (f env G) k _) ?_)
  funext u G1
  rw [Ws_andThen]
  rfl
@[simp ↓] theorem Ws_sAug (i : Nat) (g : U → U → Gp → R U) (f : FU) : Ws (sAug i g f env G) Q ↔ Wp (eVar i env G) (KAu1 i g f env Q) (KX env Q) := by
  rw [sAug_, Ws_andThen]
  refine iff_of_eq (congrArg (fun k => Wp (eVar i env G) k _) ?_)
  funext x G0
  rw [Ws_andThen]
  refine congrArg (fun k => Wp (f env G0) k _) ?_
  funext y G1
  rw [Ws_andThen]
  rfl
@[simp ↓] theorem Wp_gNm (i : Nat) (u : U) : Wp (gNm i u env G) PE E ↔ PE (env.set i (some u)) G := ⟨id, id⟩
@[simp ↓] theorem Wp_gNil : Wp (gNil [] env G) PE E ↔ PE env G := ⟨id, id⟩
@[simp ↓] theorem Wp_gCons (g : U → Ev → Gp → R Ev) (gs : List U → Ev → Gp → R Ev) (u : U) (us : List U) : Wp (gCons g gs (u :: us) env G) PE E ↔ Wp (g u env G) (KGc gs us PE E) E := by rw [gCons_, Wp_bind]; exact ⟨id, id⟩
@[simp ↓] theorem Wp_gTup (gs : List U → Ev → Gp → R Ev) (n : Nat) (us : List U) : Wp (gTup gs n (.tup us) env G) PE E ↔ us.length = n ∧ Wp (gs us env G) PE E := by
  rw [gTup_]
  by_cases h : us.length = n
  · rw [if_pos h]; exact ⟨fun z => ⟨h, z⟩, fun z => z.2⟩
  · rw [if_neg h]; exact ⟨fun z => False.elim z, fun z => absurd z.1 h⟩
@[simp ↓] theorem Wp_gSqT (gs : List U → Ev → Gp → R Ev) (n : Nat) (us : List U) : Wp (gSq gs n (.tup us) env G) PE E ↔ us.length = n ∧ Wp (gs us env G) PE E := by
  show Wp (if us.length = n then _ else _) PE E ↔ _
  by_cases h : us.length = n
  · rw [if_pos h]; exact ⟨fun z => ⟨h, z⟩, fun z => z.2⟩
  · rw [if_neg h]; exact ⟨fun z => False.elim z, fun z => absurd z.1 h⟩
theorem Wp_gSqR (gs : List U → Ev → Gp → R Ev) (n l : Nat) {us : List U} (hl : G[l]? = some (.lst us)) : Wp (gSq gs n (.ref l) env G) PE E ↔ us.length = n ∧ Wp (gs us env G) PE E := by
  unfold gSq
  simp only [hl]
  by_cases h : us.length = n
  · rw [if_pos h]; exact ⟨fun z => ⟨h, z⟩, fun z => z.2⟩
  · rw [if_neg h]; exact ⟨fun z => False.elim z, fun z => absurd z.1 h⟩
@[simp ↓] theorem Wp_gSubE (fo fi : FU) (v : U) : Wp (gSubE fo fi v env G) PE E ↔ Wp (fo env G) (KGs1 fi v env PE) noX := by
  rw [gSubE_, Wp_bindN]
  refine iff_of_eq (congrArg (fun k => Wp (fo env G) k _) ?_)
  funext x G0
  rw [Wp_bindN]
  refine congrArg (fun k => Wp (fi env G0) k _) ?_
  funext y G1
  rw [Wp_bindN]
  rfl
@[simp ↓] theorem Wp_gSubD (t : Bool) (fo fi : FU) (v : U) : Wp (gSubD t fo fi v env G) PE E ↔ Wp (fo env G) (KGd1 t fi v env PE) noX := by
  unfold gSubD
  rw [Wp_bindN]
  refine iff_of_eq (congrArg (fun k => Wp (fo env G) k _) ?_)
  funext x G0
  rw [Wp_bindN]
  refine congrArg (fun k => Wp (fi env G0) k _) ?_
  funext y G1
  rw [Wp_bindN]
  rfl
@[simp ↓] theorem Ws_sPut (cs : List Str) (f : Str) (fv fo : FU) : Ws (sPut cs f fv fo env G) Q ↔ Wp (fv env G) (KPt1 cs f fo env Q) (KX env Q) := by
  unfold sPut
  rw [Ws_andThen]
  refine iff_of_eq (congrArg (fun k => Wp (fv env G) k _) ?_)
  funext y G1
  rw [Ws_andThen]
  refine congrArg (fun k => Wp (fo env G1) k _) ?_
  funext o G2
  cases o with
  | ref l =>
    show Ws (match G2[l]? with
      | some (.ins c fs) => if cs.contains c = true ∧ fs.length < 1000 then .nx env (G2.set l (.ins c (putU f y fs))) else .bad
      | _ => .bad) Q = ∃ c fs, G2[l]? = some (.ins c fs) ∧ cs.contains c = true ∧ fs.length < 1000 ∧ Q.nx env (G2.set l (.ins c (putU f y fs)))
    cases G2[l]? with
    | none => exact propext ⟨fun z => False.elim z, fun ⟨_, _, h, _⟩ => by cases h⟩
    | some ob => cases ob with
      | ins c fs =>
        simp only
        by_cases h : cs.contains c = true ∧ fs.length < 1000
        · rw [if_pos h]
          exact propext ⟨fun z => ⟨c, fs, rfl, h.1, h.2, z⟩, fun ⟨c', fs', e, _, _, z⟩ => by cases e; exact z⟩
        · rw [if_neg h]
          exact propext ⟨fun z => False.elim z, fun ⟨c', fs', e, h1, h2, z⟩ => by cases e; exact h ⟨h1, h2⟩⟩
      | _ => exact propext ⟨fun z => False.elim z, fun ⟨_, _, h, _⟩ => by cases h⟩
  | _ => rfl
theorem Ws_putIf {cs : List Str} {f : Str} {z : U} {l : Nat} {G1 G3 : Gp} {c : Str} {fs fs' : List (Str × U)} (h3 : G3[l]? = some (.ins c fs)) (h1 : G1[l]? = some (.ins c fs')) (hc : cs.contains c = true) (hl : fs.length < 1000) (h : Q.nx env (G3.set l (.ins c (putU f z fs)))) : Ws (putIf cs f z (.ref l) G1 G3 env) Q := by
  unfold putIf insC
  simp only [h3, h1]
  rw [if_pos ⟨hc, hl, trivial⟩]
  exact h
@[simp ↓] theorem Ws_sPutAug (cs : List Str) (f : Str) (g : U → U → Gp → R U) (fo fv : FU) : Ws (sPutAug cs f g fo fv env G) Q ↔ Wp (fo env G) (KPa1 cs f g fv env Q) (KX env Q) := by
  unfold sPutAug
  rw [Ws_andThen]
  refine iff_of_eq (congrArg (fun k => Wp (fo env G) k _) ?_)
  funext y G1
  rw [Ws_andThen]
  show _ = Wp (gFld cs f y G1) (KPa2 cs f g fv y env Q) (KX env Q)
  rcases gFld_G (cs := cs) (f := f) (u := y) (G := G1) with ⟨v, e⟩ | e
  · rw [e]
    show Ws _ Q = Wp (fv env G1) (KPa3 cs f g v y G1 env Q) (KX env Q)
    rw [Ws_andThen]
    refine congrArg (fun k => Wp (fv env G1) k _) ?_
    funext o G3
    rw [Ws_andThen]
    rfl
  · rw [e]; rfl
@[simp ↓] theorem Ws_sAugSub (g : U → U → Gp → R U) (fo fi fv : FU) : Ws (sAugSub g fo fi fv env G) Q ↔ Wp (fo env G) (KAs1 g fi fv env Q) (KX env Q) := by
  unfold sAugSub
  rw [Ws_andThen]
  refine iff_of_eq (congrArg (fun k => Wp (fo env G) k _) ?_)
  funext y G1
  rw [Ws_andThen]
  refine congrArg (fun k => Wp (fi env G1) k _) ?_
  funext y2 G2
  rw [Ws_andThen]
  refine congrArg (fun k => Wp (gIdxL y y2 G2) k _) ?_
  funext y3 G3
  rw [Ws_andThen]
  refine congrArg (fun k => Wp (fv env G3) k _) ?_
  funext y4 G4
  rw [Ws_andThen]
  refine congrArg (fun k => Wp (g y3 y4 G4) k _) ?_
  funext z G5
  show _ = Wp (setU y y2 z G5) (KU env (KNx Q)) noX
  unfold putRes
  cases setU y y2 z G5 <;> rfl
@[simp ↓] theorem Ws_sRaise (c : Str) (fs : List Str) (fa : FL') : Ws (sRaise c fs fa env G) Q ↔ Wp (fa env G) (KRa c fs env Q) (KX env Q) := by
  unfold sRaise
  rw [Ws_andThen]
  refine iff_of_eq (congrArg (fun k => Wp (fa env G) k _) ?_)
  funext us G1
  show _ = (us.length = fs.length ∧ Q.ex c (fs.zip us).reverse env G1)
  by_cases h : us.length = fs.length
  · rw [if_pos h]; exact propext ⟨fun z => ⟨h, z⟩, fun z => z.2⟩
  · rw [if_neg h]; exact propext ⟨fun z => False.elim z, fun z => absurd z.1 h⟩
def Qf (P : PUt) (E : XP) : Qs := ⟨fun _ G => P .non G, P, fun _ _ => False, fun _ _ => False, fun c fs _ G => E c fs G⟩
@[simp] theorem Qf_nx (e : Ev) : (Qf P E).nx e G ↔ P .non G := ⟨id, id⟩
@[simp] theorem Qf_rt (u : U) : (Qf P E).rt u G ↔ P u G := ⟨id, id⟩
@[simp] theorem Qf_ex (c : Str) (fs : List (Str × U)) (e : Ev) : (Qf P E).ex c fs e G ↔ E c fs G := ⟨id, id⟩
theorem Wp_fin (r : SR) : Wp (fin r) P E ↔ Ws r (Qf P E) := by cases r <;> exact ⟨id, id⟩
/-- a sequence, cut: N holds behind the first -/
theorem Ws_sq {g1 g2 : Ev → Gp → SR} (N : Ev → Gp → Prop) (h : Ws (g1 env G) ⟨N, Q.rt, Q.bk, Q.ct, Q.ex⟩) (k : ∀ e G, N e G → Ws (g2 e G) Q) : Ws (sSeq g1 g2 env G) Q := by
  rw [Ws_sSeq]
  exact h.mono k (fun _ _ z => z) (fun _ _ z => z) (fun _ _ z => z) (fun _ _ _ _ z => z)
theorem Ws_cut {r : SR} (N : Ev → Gp → Prop) {K : PEt} {rt : U → Gp → Prop} {bk ct : Ev → Gp → Prop} {ex : Str → List (Str × U) → Ev → Gp → Prop} (h : Ws r ⟨N, rt, bk, ct, ex⟩) (k : ∀ e G, N e G → K e G) : Ws r ⟨K, rt, bk, ct, ex⟩ := h.mono k (fun _ _ z => z) (fun _ _ z => z) (fun _ _ z => z) (fun _ _ _ _ z => z)
/-! values -/
@[simp ↓] theorem Wp_addI (i j : Int) : Wp (gAdd (.int i) (.int j) G) P E ↔ P (.int (i + j)) G := ⟨id, id⟩
theorem Wp_addL (l m : Nat) {a b : List U} (h1 : G[l]? = some (.lst a)) (h2 : G[m]? = some (.lst b)) : Wp (gAdd (.ref l) (.ref m) G) P E ↔ a.length + b.length ≤ 16777216 ∧ P (.ref G.length) (G ++ [.lst (a ++ b)]) := by
  unfold gAdd
  simp only [h1, h2]
  exact if_iff
@[simp ↓] theorem Wp_addT (a b : List U) : Wp (gAdd (.tup a) (.tup b) G) P E ↔ a.length + b.length ≤ 16777216 ∧ P (.tup (a ++ b)) G := if_iff
@[simp ↓] theorem Wp_augI (i j : Int) : Wp (gAugAdd (.int i) (.int j) G) P E ↔ P (.int (i + j)) G := ⟨id, id⟩
@[simp ↓] theorem Wp_subI (i j : Int) : Wp (gSub (.int i) (.int j) G) P E ↔ P (.int (i - j)) G := ⟨id, id⟩
@[simp ↓] theorem Wp_negI (i : Int) : Wp (gNeg (.int i) G) P E ↔ P (.int (-i)) G := ⟨id, id⟩
@[simp ↓] theorem Wp_cmpI (p : Int → Int → Bool) (i j : Int) : Wp (gCmpI p (.int i) (.int j) G) P E ↔ P (.bl (p i j)) G := ⟨id, id⟩
@[simp ↓] theorem Wp_mulI (i j : Int) : Wp (gMul (.int i) (.int j) G) P E ↔ mulOk i j = true ∧ P (.int (i * j)) G := if_iff
@[simp] theorem mulOk_1 {i j : Int} (h1 : -18446744073709551616 < i) (h2 : i < 18446744073709551616) : mulOk i j = true := mulOk_small (by omega)
@[simp] theorem mulOk_2 {i j : Int} (h1 : -18446744073709551616 < j) (h2 : j < 18446744073709551616) : mulOk i j = true := mulOk_small2 (by omega)
def FdOk (j : Int) : Prop := 0 < j ∧ j.natAbs < 2 ^ 1000
theorem fdOk {j : Int} (h1 : 0 < j) (h2 : j < 18446744073709551616) : FdOk j := by
  have e : (2 : Nat) ^ 64 ≤ 2 ^ 1000 := Nat.pow_le_pow_right (by decide) (by decide)
  have e2 : (2 : Nat) ^ 64 = 18446744073709551616 := by decide
  exact ⟨h1, Nat.lt_of_lt_of_le (by omega) e⟩
@[simp] theorem fdOk_s {j : Int} (h1 : 0 < j) (h2 : j < 18446744073709551616) : FdOk j ↔ True := ⟨fun _ => trivial, fun _ => fdOk h1 h2⟩
@[simp ↓] theorem Wp_fdivI (i j : Int) : Wp (gFdiv (.int i) (.int j) G) P E ↔ FdOk j ∧ P (.int (i / j)) G := if_iff
@[simp ↓] theorem Wp_modI (i j : Int) : Wp (gMod (.int i) (.int j) G) P E ↔ 0 < j ∧ P (.int (i % j)) G := if_iff
@[simp ↓] theorem Wp_powI (i j : Int) : Wp (gPow (.int i) (.int j) G) P E ↔ (0 ≤ j ∧ j ≤ 1000000 ∧ i.natAbs < 2 ^ 64) ∧ P (.int (i ^ j.toNat)) G := if_iff
theorem Wp_eq {x y : U} {b : Bool} (h : eqU G x y = some b) : Wp (gEq x y G) P E ↔ P (.bl b) G := by unfold gEq; rw [h]; exact ⟨id, id⟩
theorem Wp_ne {x y : U} {b : Bool} (h : eqU G x y = some b) : Wp (gNe x y G) P E ↔ P (.bl (!b)) G := by unfold gNe; rw [h]; exact ⟨id, id⟩
@[simp ↓] theorem Wp_eqI (i j : Int) : Wp (gEq (.int i) (.int j) G) P E ↔ P (.bl (decide (i = j))) G := Wp_eq rfl
@[simp ↓] theorem Wp_neI (i j : Int) : Wp (gNe (.int i) (.int j) G) P E ↔ P (.bl (!decide (i = j))) G := Wp_ne rfl
@[simp ↓] theorem Wp_eqS (i j : Str) : Wp (gEq (.str i) (.str j) G) P E ↔ P (.bl (decide (i = j))) G := Wp_eq rfl
@[simp ↓] theorem Wp_neS (i j : Str) : Wp (gNe (.str i) (.str j) G) P E ↔ P (.bl (!decide (i = j))) G := Wp_ne rfl
@[simp ↓] theorem Wp_eqB (i j : Bool) : Wp (gEq (.bl i) (.bl j) G) P E ↔ P (.bl (decide (i = j))) G := Wp_eq rfl
@[simp ↓] theorem Wp_neB (i j : Bool) : Wp (gNe (.bl i) (.bl j) G) P E ↔ P (.bl (!decide (i = j))) G := Wp_ne rfl
@[simp ↓] theorem Wp_isN (x : U) : Wp (gIsN x .non G) P E ↔ P (.bl (match x with
  | .non => true
  | _ => false)) G := ⟨id, id⟩
@[simp ↓] theorem Wp_notN (x : U) : Wp (gNotN x .non G) P E ↔ P (.bl (match x with
  | .non => false
  | _ => true)) G := ⟨id, id⟩
theorem Wp_idx {x : U} {xs : List U} (i : Int) (h : seqU G x = some xs) : Wp (gIdx x (.int i) G) P E ↔ ∃ u, atI xs i = some u ∧ P u G := by
  cases q : atI xs i with
  | some u => rw [gIdx_seq h q]; exact ⟨fun z => ⟨u, rfl, z⟩, fun ⟨u', e, z⟩ => by cases e; exact z⟩
  | none =>
    have e : gIdx x (.int i) G = .bad := by
      cases x with
      | str z => exact nomatch h
      | _ => simp only [gIdx, h, q]
    rw [e]
    exact ⟨fun z => False.elim z, fun ⟨u', e, z⟩ => by cases e⟩
@[simp ↓] theorem Wp_idxT (xs : List U) (i : Int) : Wp (gIdx (.tup xs) (.int i) G) P E ↔ ∃ u, atI xs i = some u ∧ P u G := Wp_idx i rfl
@[simp ↓] theorem Wp_idxRl (xs : List U) (i : Int) : Wp (gIdx (.rl xs) (.int i) G) P E ↔ ∃ u, atI xs i = some u ∧ P u G := Wp_idx i rfl
theorem Wp_idxR {l : Nat} {xs : List U} (h : G[l]? = some (.lst xs)) (i : Int) : Wp (gIdx (.ref l) (.int i) G) P E ↔ ∃ u, atI xs i = some u ∧ P u G := Wp_idx i (by rw [seqU_ref, h])
@[simp ↓] theorem Wp_intI (i : Int) : Wp (bInt [.int i] G) P E ↔ P (.int i) G := ⟨id, id⟩
@[simp ↓] theorem Wp_lenT (xs : List U) : Wp (bLen [.tup xs] G) P E ↔ P (.int xs.length) G := ⟨id, id⟩
theorem Wp_lenR {l : Nat} {xs : List U} (h : G[l]? = some (.lst xs)) : Wp (bLen [.ref l] G) P E ↔ P (.int xs.length) G := by
  rw [bLen_seq (show seqU G (.ref l) = some xs by rw [seqU_ref, h])]; exact ⟨id, id⟩
theorem Wp_setU {l : Nat} {xs : List U} (h : G[l]? = some (.lst xs)) (k : Int) (v : U) {PV : Unit → Gp → Prop} : Wp (setU (.ref l) (.int k) v G) PV E ↔ ∃ j, ixN xs.length k = some j ∧ PV () (G.set l (.lst (xs.set j v))) := by
  unfold setU
  simp only [h]
  cases q : ixN xs.length k with
  | some j => exact ⟨fun z => ⟨j, rfl, z⟩, fun ⟨j', e, z⟩ => by cases e; exact z⟩
  | none => exact ⟨fun z => False.elim z, fun ⟨j', e, z⟩ => by cases e⟩
theorem Wp_idxL {l : Nat} {xs : List U} (h : G[l]? = some (.lst xs)) (k : Int) : Wp (gIdxL (.ref l) (.int k) G) P E ↔ 0 ≤ k ∧ ∃ u, atI xs k = some u ∧ P u G := by
  unfold gIdxL
  simp only [h]
  by_cases h0 : 0 ≤ k
  · rw [if_pos h0]
    cases q : atI xs k with
    | some u => exact ⟨fun z => ⟨h0, u, rfl, z⟩, fun ⟨_, u', e, z⟩ => by cases e; exact z⟩
    | none => exact ⟨fun z => False.elim z, fun ⟨_, u', e, z⟩ => by cases e⟩
  · rw [if_neg h0]
    exact ⟨fun z => False.elim z, fun z => absurd z.1 h0⟩
theorem Wp_append {l : Nat} {xs : List U} (h : G[l]? = some (.lst xs)) (v : U) : Wp (mAppend (.ref l) [v] G) P E ↔ xs.length < 16777216 ∧ P .non (G.set l (.lst (xs ++ [v]))) := by
  unfold mAppend
  simp only [h]
  exact if_iff
theorem isLst_r {l : Nat} {xs : List U} (h : G[l]? = some (.lst xs)) : (isLst (.ref l) G = true) ↔ True := ⟨fun _ => trivial, fun _ => isLst_ref h⟩
theorem Wp_popAt {l : Nat} {xs : List U} (h : G[l]? = some (.lst xs)) {k : Nat} {u : U} (hu : xs[k]? = some u) (hb : k < 1000000) : Wp (mPopAt (.ref l) [.int (k : Int)] G) P E ↔ P u (G.set l (.lst (xs.eraseIdx k))) := by
  have hk := (List.getElem?_eq_some_iff.mp hu).1
  have e63 : (2 : Int) ^ 63 = 9223372036854775808 := by decide
  have e : mPopAt (.ref l) [.int (k : Int)] G = .ok u (G.set l (.lst (xs.eraseIdx k))) := by
    unfold mPopAt
    simp only
    rw [if_pos ⟨by rw [e63]; omega, by rw [e63]; omega⟩, h]
    simp only [ixN_nat' hk, hu]
  rw [e]
  exact ⟨id, id⟩
@[simp ↓] theorem Wp_tupleT (xs : List U) : Wp (bTuple [.tup xs] G) P E ↔ P (.tup xs) G := ⟨id, id⟩
theorem Wp_tupleR {l : Nat} {xs : List U} (h : G[l]? = some (.lst xs)) : Wp (bTuple [.ref l] G) P E ↔ P (.tup xs) G := by
  rw [bTuple_seq (show seqU G (.ref l) = some xs by rw [seqU_ref, h])]; exact ⟨id, id⟩
@[simp ↓] theorem Wp_listT (xs : List U) : Wp (bList [.tup xs] G) P E ↔ P (.ref G.length) (G ++ [.lst xs]) := ⟨id, id⟩
theorem Wp_listR {l : Nat} {xs : List U} (h : G[l]? = some (.lst xs)) : Wp (bList [.ref l] G) P E ↔ P (.ref G.length) (G ++ [.lst xs]) := by
  rw [bList_seq (show seqU G (.ref l) = some xs by rw [seqU_ref, h])]; exact ⟨id, id⟩
@[simp ↓] theorem Wp_max2 (i j : Int) : Wp (bMax2 [.int i, .int j] G) P E ↔ P (.int (max i j)) G := by rw [bMax2_ii]; exact ⟨id, id⟩
@[simp ↓] theorem Wp_min2 (i j : Int) : Wp (bMin2 [.int i, .int j] G) P E ↔ P (.int (min i j)) G := by rw [bMin2_ii]; exact ⟨id, id⟩
@[simp ↓] theorem Wp_slT (xs : List U) (lo hi : Option Int) : Wp (gSl (.tup xs) lo hi G) P E ↔ P (.tup (cutU xs lo hi)) G := ⟨id, id⟩
@[simp ↓] theorem Wp_slRl (xs : List U) (lo hi : Option Int) : Wp (gSl (.rl xs) lo hi G) P E ↔ P (.ref G.length) (G ++ [.lst (cutU xs lo hi)]) := ⟨id, id⟩
theorem Wp_slR {l : Nat} {xs : List U} (h : G[l]? = some (.lst xs)) (lo hi : Option Int) : Wp (gSl (.ref l) lo hi G) P E ↔ P (.ref G.length) (G ++ [.lst (cutU xs lo hi)]) := by
  unfold gSl
  simp only [h]
  exact ⟨id, id⟩
theorem Wp_isRes {tbl : List (String × Bool)} {u : U} {n : String} {b : Bool} (h1 : tyN G u = some n) (h2 : tbl.lookup n = some b) : Wp (isRes tbl u G) P E ↔ P (.bl b) G := by rw [isRes_of h1 h2]; exact ⟨id, id⟩
theorem Wp_fld {cs : List Str} {f : Str} {l : Nat} {c : Str} {fs : List (Str × U)} {v : U} (h : G[l]? = some (.ins c fs)) (hc : cs.contains c = true) (hv : fs.lookup f = some v) : Wp (gFld cs f (.ref l) G) P E ↔ P v G := by
  unfold gFld
  simp only [h, hc, if_true, hv]
  exact ⟨id, id⟩
end
@[simp] theorem atI0 {α : Type} (x : α) (xs : List α) : atI (x :: xs) 0 = some x := atI_pos (by decide) rfl
@[simp] theorem atI1 {α : Type} (x y : α) (xs : List α) : atI (x :: y :: xs) 1 = some y := atI_pos (by decide) rfl
@[simp] theorem atI2 {α : Type} (x y z : α) (xs : List α) : atI (x :: y :: z :: xs) 2 = some z := atI_pos (by decide) rfl
@[simp] theorem atI3 {α : Type} (x y z w : α) (xs : List α) : atI (x :: y :: z :: w :: xs) 3 = some w := atI_pos (by decide) rfl
@[simp] theorem ixN_0 (n : Nat) : ixN (n + 1) 0 = some 0 := by unfold ixN; rw [if_pos (by decide), if_pos (by omega)]; rfl
@[simp] theorem ixN_1 (n : Nat) : ixN (n + 1 + 1) 1 = some 1 := by unfold ixN; rw [if_pos (by decide), if_pos (by omega)]; rfl
@[simp] theorem ixN_2 (n : Nat) : ixN (n + 1 + 1 + 1) 2 = some 2 := by unfold ixN; rw [if_pos (by decide), if_pos (by omega)]; rfl
@[simp] theorem ixN_3 (n : Nat) : ixN (n + 1 + 1 + 1 + 1) 3 = some 3 := by unfold ixN; rw [if_pos (by decide), if_pos (by omega)]; rfl
theorem ixN_nat {n i : Nat} (h : i < n) : ixN n (i : Int) = some i := by unfold ixN; rw [if_pos (by omega), if_pos (by omega)]; rfl
/-! loops -/
def Qs.loop (Q : Qs) (N : Ev → Gp → Prop) : Qs := ⟨N, Q.rt, Q.nx, N, Q.ex⟩
theorem after_ws {r : SR} {N : Ev → Gp → Prop} {Q : Qs} (h : Ws r (Q.loop N)) : after r N (fun r => Ws r Q) := by
  cases r <;> exact h
/-- a turn: the target's stores, then the body -/
def KTn (body : Ev → Gp → SR) (Q : Qs) (N : Ev → Gp → Prop) : PEt := fun e G => Ws (body e G) (Q.loop N)
@[simp ↓] theorem KTn_ (body : Ev → Gp → SR) (Q : Qs) (N : Ev → Gp → Prop) (e : Ev) (G : Gp) : KTn body Q N e G ↔ Ws (body e G) ⟨N, Q.rt, Q.nx, N, Q.ex⟩ := ⟨id, id⟩
theorem turn_ws {r : R Ev} {env : Ev} {body : Ev → Gp → SR} {N : Ev → Gp → Prop} {Q : Qs} (h : Wp r (KTn body Q N) (KX env Q)) : after (r.andThen env fun env1 G1 => body env1 G1) N (fun r => Ws r Q) := by
  refine after_ws ?_
  rw [Ws_andThen]
  exact h
section
variable {gf : U → Ev → Gp → R Ev} {body : Ev → Gp → SR} {env : Ev} {G G1 : Gp} {Q : Qs}
theorem Ws_rng1 {fa : Ev → Gp → R (List U)} {j : Int} (I : Nat → Ev → Gp → Prop) (hf : fa env G = .ok [.int j] G1) (h1 : -4611686018427387904 ≤ j) (h2 : j < 4611686018427387904) (h0 : I 0 env G1)
    (step : ∀ (i : Nat), i < j.toNat → ∀ (e : Ev) (G : Gp), I i e G → Wp (gf (.int (i : Nat)) e G) (KTn body Q (I (i + 1))) (KX e Q))
    (fin : ∀ e G, I j.toNat e G → Q.nx e G) : Ws (sFor (iOfs fa kRng1) gf body env G) Q :=
  sFor_rng1 (j := j) I (fun r => Ws r Q) hf h1 h2 h0 (fun i hi e G hI => turn_ws (step i hi e G hI)) fin
theorem Ws_rng2 {fa : Ev → Gp → R (List U)} {a j : Int} (I : Nat → Ev → Gp → Prop) (hf : fa env G = .ok [.int a, .int j] G1) (h1 : -4611686018427387904 ≤ a) (h2 : a < 4611686018427387904) (h3 : -4611686018427387904 ≤ j) (h4 : j < 4611686018427387904) (h0 : I 0 env G1)
    (step : ∀ (i : Nat), i < (j - a).toNat → ∀ (e : Ev) (G : Gp), I i e G → Wp (gf (.int (a + (i : Nat))) e G) (KTn body Q (I (i + 1))) (KX e Q))
    (fin : ∀ e G, I (j - a).toNat e G → Q.nx e G) : Ws (sFor (iOfs fa kRng2) gf body env G) Q :=
  sFor_rng2 (a := a) (j := j) I (fun r => Ws r Q) hf h1 h2 h3 h4 h0 (fun i hi e G hI => turn_ws (step i hi e G hI)) fin
theorem Ws_src {fi : Ev → Gp → R Src} {src : Src} {xs : List U} (I : Nat → Ev → Gp → Prop) (hf : fi env G = .ok src G1) (hs : Gives src xs I) (h0 : I 0 env G1)
    (step : ∀ (i : Nat) (hi : i < xs.length) (e : Ev) (G : Gp), I i e G → Wp (gf xs[i] e G) (KTn body Q (I (i + 1))) (KX e Q))
    (fin : ∀ e G, I xs.length e G → Q.nx e G) : Ws (sFor fi gf body env G) Q :=
  sFor_post (xs := xs) I (fun r => Ws r Q) hf hs h0 (fun i hi e G hI => turn_ws (step i hi e G hI)) fin
theorem Ws_tup {f : Ev → Gp → R U} {xs : List U} (I : Nat → Ev → Gp → Prop) (hf : f env G = .ok (.tup xs) G1) (h0 : I 0 env G1)
    (step : ∀ (i : Nat) (hi : i < xs.length) (e : Ev) (G : Gp), I i e G → Wp (gf xs[i] e G) (KTn body Q (I (i + 1))) (KX e Q))
    (fin : ∀ e G, I xs.length e G → Q.nx e G) : Ws (sFor (iOf f kSeq) gf body env G) Q :=
  sFor_tup (xs := xs) I (fun r => Ws r Q) hf h0 (fun i hi e G hI => turn_ws (step i hi e G hI)) fin
theorem Ws_ref {f : Ev → Gp → R U} {l : Nat} {xs : List U} (I : Nat → Ev → Gp → Prop) (hf : f env G = .ok (.ref l) G1) (hl : G1[l]? = some (.lst xs)) (hI : ∀ i e G, I i e G → G[l]? = some (.lst xs)) (h0 : I 0 env G1)
    (step : ∀ (i : Nat) (hi : i < xs.length) (e : Ev) (G : Gp), I i e G → Wp (gf xs[i] e G) (KTn body Q (I (i + 1))) (KX e Q))
    (fin : ∀ e G, I xs.length e G → Q.nx e G) : Ws (sFor (iOf f kSeq) gf body env G) Q :=
  sFor_ref (l := l) (xs := xs) I (fun r => Ws r Q) hf hl hI h0 (fun i hi e G hI => turn_ws (step i hi e G hI)) fin
def KWh (body : Ev → Gp → SR) (e : Ev) (Q : Qs) (N : Ev → Gp → Prop) : PBt := fun b G1 => if b = true then Ws (body e G1) (Q.loop N) else Q.nx e G1
theorem KWh_ (N : Ev → Gp → Prop) (b : Bool) : KWh body env Q N b G ↔ (b = true → Ws (body env G) ⟨N, Q.rt, Q.nx, N, Q.ex⟩) ∧ (b = false → Q.nx env G) := by
  unfold KWh; cases b <;> simp [Qs.loop]
theorem Ws_while {fc : Ev → Gp → R Bool} (I : Ev → Gp → Prop) (m : Ev → Gp → Nat) (h0 : I env G) (hm : m env G < bigN)
    (step : ∀ e G, I e G → Wp (fc e G) (KWh body e Q fun e' G' => I e' G' ∧ m e' G' < m e G) noX) : Ws (whileN fc body bigN env G) Q := by
  refine while_post I m (fun r => Ws r Q) (fun e G hI => ?_) bigN env G h0 hm
  obtain ⟨b, G1, e1, h⟩ := (step e G hI).ok
  refine ⟨b, G1, e1, fun hb => ?_, fun hb => ?_⟩
  · subst hb
    exact after_ws h
  · subst hb
    exact h
/-! a comprehension -/
def KCo3 (l : Nat) (acc : List U) (I : Nat → List U → Gp → Prop) (i : Nat) : PUt := fun y G => G[l]? = some (.lst acc) ∧ I (i + 1) (acc ++ [y]) (G.set l (.lst (acc ++ [y])))
def KCo2 (l : Nat) (acc : List U) (fe : FU) (e : Ev) (I : Nat → List U → Gp → Prop) (i : Nat) : PBt := fun b G => if b = true then Wp (fe e G) (KCo3 l acc I i) noX else G[l]? = some (.lst acc) ∧ I (i + 1) acc G
def KCo1 (l : Nat) (acc : List U) (ft : FB) (fe : FU) (I : Nat → List U → Gp → Prop) (i : Nat) : PEt := fun e G => Wp (ft e G) (KCo2 l acc fe e I i) noX
@[simp ↓] theorem KCo3_ (l : Nat) (acc : List U) (I : Nat → List U → Gp → Prop) (i : Nat) (y : U) : KCo3 l acc I i y G ↔ G[l]? = some (.lst acc) ∧ I (i + 1) (acc ++ [y]) (G.set l (.lst (acc ++ [y]))) := ⟨id, id⟩
theorem KCo2_ (l : Nat) (acc : List U) (fe : FU) (e : Ev) (I : Nat → List U → Gp → Prop) (i : Nat) (b : Bool) : KCo2 l acc fe e I i b G ↔ (b = true → Wp (fe e G) (KCo3 l acc I i) noX) ∧ (b = false → G[l]? = some (.lst acc) ∧ I (i + 1) acc G) := by
  unfold KCo2; cases b <;> simp
@[simp ↓] theorem KCo2_t (l : Nat) (acc : List U) (fe : FU) (e : Ev) (I : Nat → List U → Gp → Prop) (i : Nat) : KCo2 l acc fe e I i true G ↔ Wp (fe e G) (KCo3 l acc I i) noX := by simp [KCo2_]
@[simp ↓] theorem KCo2_f (l : Nat) (acc : List U) (fe : FU) (e : Ev) (I : Nat → List U → Gp → Prop) (i : Nat) : KCo2 l acc fe e I i false G ↔ G[l]? = some (.lst acc) ∧ I (i + 1) acc G := by simp [KCo2_]
@[simp ↓] theorem KCo1_ (l : Nat) (acc : List U) (ft : FB) (fe : FU) (I : Nat → List U → Gp → Prop) (i : Nat) (e : Ev) : KCo1 l acc ft fe I i e G ↔ Wp (ft e G) (KCo2 l acc fe e I i) noX := ⟨id, id⟩
theorem Wp_comp {own : List Nat} {fi : Ev → Gp → R Src} {ft : Ev → Gp → R Bool} {fe : Ev → Gp → R U} {src : Src} {xs : List U} {P : PUt} {E : XP} (I : Nat → List U → Gp → Prop) (hf : fi env G = .ok src G1)
    (hs : xs.length < src.fuel ∧ ∀ i acc G, i ≤ xs.length → I i acc G → src.at_ i G = some xs[i]?) (hlen : xs.length < 16777216) (h0 : I 0 [] (G1 ++ [.lst []]))
    (step : ∀ (i : Nat) (hi : i < xs.length) (acc : List U) (G : Gp), I i acc G → G[G1.length]? = some (.lst acc) → Wp (gf xs[i] (wipeE env own) G) (KCo1 G1.length acc ft fe I i) noX)
    (fin : ∀ acc G, acc.length ≤ xs.length → I xs.length acc G → G[G1.length]? = some (.lst acc) → P (.ref G1.length) G) : Wp (eComp own fi gf ft fe env G) P E := by
  refine eComp_post (xs := xs) I (fun r => Wp r P E) hf hs hlen h0 (fun i hi acc G hI hl => ?_) fin
  obtain ⟨env1, G2, e1, h1⟩ := (step i hi acc G hI hl).ok
  obtain ⟨b, G3, e2, h2⟩ := Wp.ok (show Wp (ft env1 G2) (KCo2 G1.length acc fe env1 I i) noX from h1)
  refine ⟨env1, G2, b, G3, e1, e2, fun hb => ?_, fun hb => ?_⟩
  · subst hb
    obtain ⟨y, G4, e3, h3, h4⟩ := Wp.ok (show Wp (fe env1 G3) (KCo3 G1.length acc I i) noX from h2)
    exact ⟨y, G4, e3, h3, h4⟩
  · subst hb
    exact h2
end
end FL

set_option Elab.async false
set_option linter.all false
set_option maxRecDepth 100000
set_option maxHeartbeats 4000000
set_option autoImplicit false
/-! data: what a value stands for in a heap (lists above b) -/
namespace FL
open PySem PySem.Spec L2
/-- heaps that grow; what stands at b or below may change -/
def Ext (b : Nat) (G G' : Gp) : Prop := G.length ≤ G'.length ∧ ∀ l, b < l → l < G.length → G'[l]? = G[l]?
theorem Ext.refl {b : Nat} (G : Gp) : Ext b G G := ⟨Nat.le_refl _, fun _ _ _ => rfl⟩
theorem Ext.trans {b : Nat} {G G1 G2 : Gp} (h : Ext b G G1) (k : Ext b G1 G2) : Ext b G G2 := ⟨Nat.le_trans h.1 k.1, fun l h1 h2 => (k.2 l h1 (Nat.lt_of_lt_of_le h2 h.1)).trans (h.2 l h1 h2)⟩
theorem Ext.at_ {b : Nat} {G G' : Gp} (h : Ext b G G') {l : Nat} {o : OU} (hp : b < l) (e : G[l]? = some o) : G'[l]? = some o := (h.2 l hp (List.getElem?_eq_some_iff.mp e).1).trans e
theorem Ext.push {b : Nat} (G : Gp) (o : OU) : Ext b G (G ++ [o]) := ⟨by simp, fun l _ h => List.getElem?_append_left h⟩
theorem Ext.set {b : Nat} {G G' : Gp} (h : Ext b G G') {l : Nat} (hl : G.length ≤ l ∨ l ≤ b) (o : OU) : Ext b G (G'.set l o) := ⟨by simp [h.1], fun m h1 h2 => by rw [List.getElem?_set_ne (by omega)]; exact h.2 m h1 h2⟩
/-- nothing changes -/
def Ex0 (G G' : Gp) : Prop := G.length ≤ G'.length ∧ ∀ l, l < G.length → G'[l]? = G[l]?
theorem Ex0.refl (G : Gp) : Ex0 G G := ⟨Nat.le_refl _, fun _ _ => rfl⟩
theorem Ex0.trans {G G1 G2 : Gp} (a : Ex0 G G1) (b : Ex0 G1 G2) : Ex0 G G2 := ⟨Nat.le_trans a.1 b.1, fun l h => (b.2 l (Nat.lt_of_lt_of_le h a.1)).trans (a.2 l h)⟩
theorem Ex0.push (G : Gp) (o : OU) : Ex0 G (G ++ [o]) := ⟨by simp, fun l h => List.getElem?_append_left h⟩
theorem Ex0.set {G G' : Gp} (h : Ex0 G G') {l : Nat} (hl : G.length ≤ l) (o : OU) : Ex0 G (G'.set l o) := ⟨by simp [h.1], fun m h1 => by rw [List.getElem?_set_ne (by omega)]; exact h.2 m h1⟩
theorem Ex0.at_ {G G' : Gp} (h : Ex0 G G') {l : Nat} {o : OU} (e : G[l]? = some o) : G'[l]? = some o := (h.2 l (List.getElem?_eq_some_iff.mp e).1).trans e
theorem Ex0.ext {b : Nat} {G G' : Gp} (h : Ex0 G G') : Ext b G G' := ⟨h.1, fun l _ h2 => h.2 l h2⟩
theorem push_at (G : Gp) (o : OU) : (G ++ [o])[G.length]? = some o := by simp
theorem lt_of_at {G : Gp} {l : Nat} {o : OU} (h : G[l]? = some o) : l < G.length := (List.getElem?_eq_some_iff.mp h).1
mutual
inductive Dt (b : Nat) (G : Gp) : U → PyData → Prop
  | non : Dt b G .non .none
  | bl (x : Bool) : Dt b G (.bl x) (.bool x)
  | int (i : Int) : Dt b G (.int i) (.int i)
  | str (x : Str) : Dt b G (.str x) (.str x)
  | tup {xs : List U} {ds : List PyData} (h : Dts b G xs ds) : Dt b G (.tup xs) (.tuple ds)
  | lst {l : Nat} {xs : List U} {ds : List PyData} (hb : b < l) (hl : G[l]? = some (.lst xs)) (h : Dts b G xs ds) : Dt b G (.ref l) (.list ds)
inductive Dts (b : Nat) (G : Gp) : List U → List PyData → Prop
  | nil : Dts b G [] []
  | cons {x : U} {d : PyData} {xs : List U} {ds : List PyData} (h : Dt b G x d) (t : Dts b G xs ds) : Dts b G (x :: xs) (d :: ds)
end
section
variable {b : Nat} {G G' : Gp}
mutual
theorem Dt.mono (e : Ext b G G') : ∀ {u : U} {d : PyData}, Dt b G u d → Dt b G' u d
  | _, _, .non => .non
  | _, _, .bl x => .bl x
  | _, _, .int i => .int i
  | _, _, .str x => .str x
  | _, _, .tup h => .tup (Dts.mono e h)
  | _, _, .lst hb hl h => .lst hb (e.at_ hb hl) (Dts.mono e h)
theorem Dts.mono (e : Ext b G G') : ∀ {us : List U} {ds : List PyData}, Dts b G us ds → Dts b G' us ds
  | _, _, .nil => .nil
  | _, _, .cons h t => .cons (Dt.mono e h) (Dts.mono e t)
end
theorem Dts.len : ∀ {us : List U} {ds : List PyData}, Dts b G us ds → us.length = ds.length
  | _, _, .nil => rfl
  | _, _, .cons _ t => by rw [List.length_cons, List.length_cons, t.len]
theorem Dts.get : ∀ {us : List U} {ds : List PyData}, Dts b G us ds → ∀ {i : Nat} {d : PyData}, ds[i]? = some d → ∃ u, us[i]? = some u ∧ Dt b G u d
  | _, _, .nil, _, _, e => by simp at e
  | _, _, .cons h t, 0, d, e => by simp at e; subst e; exact ⟨_, rfl, h⟩
  | _, _, .cons h t, i + 1, d, e => by
    obtain ⟨u, e1, r⟩ := t.get (i := i) (d := d) (by simpa using e)
    exact ⟨u, by simpa using e1, r⟩
theorem Dts.getU : ∀ {us : List U} {ds : List PyData}, Dts b G us ds → ∀ {i : Nat} {u : U}, us[i]? = some u → ∃ d, ds[i]? = some d ∧ Dt b G u d
  | _, _, .nil, _, _, e => by simp at e
  | _, _, .cons h t, 0, d, e => by simp at e; subst e; exact ⟨_, rfl, h⟩
  | _, _, .cons h t, i + 1, d, e => by
    obtain ⟨u, e1, r⟩ := t.getU (i := i) (u := d) (by simpa using e)
    exact ⟨u, by simpa using e1, r⟩
theorem Dts.app : ∀ {us : List U} {ds : List PyData}, Dts b G us ds → ∀ {us' : List U} {ds' : List PyData}, Dts b G us' ds' → Dts b G (us ++ us') (ds ++ ds')
  | _, _, .nil, _, _, r => r
  | _, _, .cons h t, _, _, r => .cons h (t.app r)
theorem Dts.take : ∀ {us : List U} {ds : List PyData}, Dts b G us ds → ∀ n : Nat, Dts b G (us.take n) (ds.take n)
  | _, _, .nil, n => by simpa using Dts.nil
  | _, _, .cons _ _, 0 => .nil
  | _, _, .cons h t, n + 1 => .cons h (t.take n)
theorem Dts.drop : ∀ {us : List U} {ds : List PyData}, Dts b G us ds → ∀ n : Nat, Dts b G (us.drop n) (ds.drop n)
  | _, _, .nil, n => by simpa using Dts.nil
  | _, _, .cons h t, 0 => .cons h t
  | _, _, .cons _ t, n + 1 => t.drop n
theorem Dts.set : ∀ {us : List U} {ds : List PyData}, Dts b G us ds → ∀ {u : U} {d : PyData}, Dt b G u d → ∀ i : Nat, Dts b G (us.set i u) (ds.set i d)
  | _, _, .nil, _, _, _, _ => .nil
  | _, _, .cons _ t, _, _, r, 0 => .cons r t
  | _, _, .cons h t, _, _, r, i + 1 => .cons h (t.set r i)
theorem Dts.eraseIdx : ∀ {us : List U} {ds : List PyData}, Dts b G us ds → ∀ i : Nat, Dts b G (us.eraseIdx i) (ds.eraseIdx i)
  | _, _, .nil, _ => .nil
  | _, _, .cons _ t, 0 => t
  | _, _, .cons h t, i + 1 => .cons h (t.eraseIdx i)
theorem Dts.insertIdx : ∀ {us : List U} {ds : List PyData}, Dts b G us ds → ∀ {u : U} {d : PyData}, Dt b G u d → ∀ i : Nat, Dts b G (us.insertIdx i u) (ds.insertIdx i d)
  | _, _, .nil, _, _, r, 0 => .cons r .nil
  | _, _, .nil, _, _, r, i + 1 => .nil
  | _, _, .cons h t, _, _, r, 0 => .cons r (.cons h t)
  | _, _, .cons h t, _, _, r, i + 1 => by
    rw [List.insertIdx_succ_cons, List.insertIdx_succ_cons]
    exact .cons h (t.insertIdx r i)
theorem Dts.ints : ∀ ns : List Int, Dts b G (ns.map .int) (ns.map .int)
  | [] => .nil
  | n :: r => .cons (.int n) (Dts.ints r)
theorem Dts.cut {us : List U} {ds : List PyData} (h : Dts b G us ds) (lo hi : Option Int) : Dts b G (cutU us lo hi) (cutU ds lo hi) := by
  unfold cutU
  rw [h.len]
  exact (h.drop _).take _
/-- the items of a list or tuple -/
def itD : PyData → Option (List PyData)
  | .list ds => some ds
  | .tuple ds => some ds
  | _ => none
theorem Dt.seq {u : U} {d : PyData} (h : Dt b G u d) {ds : List PyData} (e : itD d = some ds) : ∃ us, seqU G u = some us ∧ Dts b G us ds := by
  cases h with
  | tup h => cases e; exact ⟨_, rfl, h⟩
  | lst hb hl h => cases e; exact ⟨_, by rw [seqU_ref, hl], h⟩
  | _ => exact nomatch e
/-- a value's type by its data -/
def tyD : PyData → String
  | .none => "NoneType"
  | .bool _ => "bool"
  | .int _ => "int"
  | .str _ => "str"
  | .list _ => "list"
  | .tuple _ => "tuple"
  | .dict _ => "dict"
theorem Dt.ty {u : U} {d : PyData} (h : Dt b G u d) : tyN G u = some (tyD d) := by
  cases h with
  | lst hb hl h => unfold tyN; simp only [hl]; rfl
  | _ => rfl
def isIntD : PyData → Bool | .int _ => true | .bool _ => true | _ => false
def isBoolD : PyData → Bool | .bool _ => true | _ => false
def isStrD : PyData → Bool | .str _ => true | _ => false
def isTupD : PyData → Bool | .tuple _ => true | _ => false
def isLstD : PyData → Bool | .list _ => true | _ => false
def isSeqD : PyData → Bool | .list _ => true | .tuple _ => true | _ => false
variable {u : U} {d : PyData} {P : PUt} {E : XP}
theorem Wp_isInt (h : Dt b G u d) : Wp (isRes tbInt u G) P E ↔ P (.bl (isIntD d)) G := Wp_isRes h.ty (by cases d <;> rfl)
theorem Wp_isBool (h : Dt b G u d) : Wp (isRes tbBool u G) P E ↔ P (.bl (isBoolD d)) G := Wp_isRes h.ty (by cases d <;> rfl)
theorem Wp_isStr (h : Dt b G u d) : Wp (isRes tbStr u G) P E ↔ P (.bl (isStrD d)) G := Wp_isRes h.ty (by cases d <;> rfl)
theorem Wp_isTup (h : Dt b G u d) : Wp (isRes tbTup u G) P E ↔ P (.bl (isTupD d)) G := Wp_isRes h.ty (by cases d <;> rfl)
theorem Wp_isLst (h : Dt b G u d) : Wp (isRes tbLst u G) P E ↔ P (.bl (isLstD d)) G := Wp_isRes h.ty (by cases d <;> rfl)
theorem Wp_isSeq (h : Dt b G u d) : Wp (isRes tbSeq u G) P E ↔ P (.bl (isSeqD d)) G := Wp_isRes h.ty (by cases d <;> rfl)
theorem Wp_len (h : Dt b G u d) {ds : List PyData} (e : itD d = some ds) : Wp (bLen [u] G) P E ↔ P (.int ds.length) G := by
  obtain ⟨us, h1, h2⟩ := h.seq e
  rw [bLen_seq h1, h2.len]
  exact ⟨id, id⟩
theorem Wp_idxD (h : Dt b G u d) {ds : List PyData} (e : itD d = some ds) (i : Int) {x : PyData} (hx : atI ds i = some x) (k : ∀ v, Dt b G v x → P v G) : Wp (gIdx u (.int i) G) P E := by
  obtain ⟨us, h1, h2⟩ := h.seq e
  unfold atI at hx
  cases q : ixN ds.length i with
  | none => rw [q] at hx; exact nomatch hx
  | some j =>
    rw [q] at hx
    obtain ⟨v, e1, r⟩ := h2.get (i := j) hx
    refine (Wp_idx i h1).mpr ⟨v, ?_, k v r⟩
    unfold atI
    rw [h2.len, q]
    exact e1
end
/-- a new list of data -/
theorem Dt.new {b : Nat} {G : Gp} {us : List U} {ds : List PyData} (h : Dts b G us ds) (hb : b < G.length) : Dt b (G ++ [.lst us]) (.ref G.length) (.list ds) := .lst hb (push_at G _) (h.mono (Ext.push G _))
/-! a row of items, gone through: a tuple's or a list's that stays -/
theorem gives_dt {b : Nat} {G : Gp} {u : U} {d : PyData} {ds : List PyData} (h : Dt b G u d) (e : itD d = some ds) {I : Nat → Ev → Gp → Prop} (hI : ∀ i env G', I i env G' → Ext b G G') : ∃ src us, kSeq u G = some src ∧ Dts b G us ds ∧ Gives src us I := by
  cases h with
  | tup h => cases e; exact ⟨_, _, rfl, h, gives_items⟩
  | @lst l xs ds hb hl h =>
    cases e
    obtain ⟨src, h1, h2⟩ := gives_ref (I := I) hl (fun i env G' hi => (hI i env G' hi).at_ hb hl)
    exact ⟨src, xs, h1, h, h2⟩
  | _ => exact nomatch e
theorem Ws_dt {b : Nat} {gf : U → Ev → Gp → R Ev} {body : Ev → Gp → SR} {env : Ev} {G G1 : Gp} {Q : Qs} {f : Ev → Gp → R U} {u : U} {d : PyData} {ds : List PyData} (I : Nat → Ev → Gp → Prop) (hf : f env G = .ok u G1) (h : Dt b G1 u d) (e : itD d = some ds) (hI : ∀ i env G', I i env G' → Ext b G1 G') (h0 : I 0 env G1)
    (step : ∀ (i : Nat) (x : U) (dx : PyData), ds[i]? = some dx → Dt b G1 x dx → ∀ (e : Ev) (G : Gp), I i e G → Wp (gf x e G) (KTn body Q (I (i + 1))) (KX e Q))
    (fin : ∀ e G, I ds.length e G → Q.nx e G) : Ws (sFor (iOf f kSeq) gf body env G) Q := by
  obtain ⟨src, us, h1, h2, h3⟩ := gives_dt h e hI
  refine Ws_src (xs := us) I (iOf_ok hf h1) h3 h0 (fun i hi e G hI => ?_) (fun e G hI => fin e G (by rw [← h2.len]; exact hI))
  obtain ⟨dx, hd, hr⟩ := h2.getU (i := i) (u := us[i]) (List.getElem?_eq_getElem hi)
  exact step i _ dx hd hr e G hI
/-- a comprehension over data -/
theorem Wp_compD {b : Nat} {env : Ev} {G G1 : Gp} {own : List Nat} {f : Ev → Gp → R U} {gf : U → Ev → Gp → R Ev} {ft : Ev → Gp → R Bool} {fe : Ev → Gp → R U} {u : U} {d : PyData} {ds : List PyData} {P : PUt} {E : XP} (I : Nat → List U → Gp → Prop) (hf : f env G = .ok u G1) (h : Dt b G1 u d) (e : itD d = some ds)
    (hlen : ds.length < 16777216) (hI : ∀ i acc G', I i acc G' → Ext b G1 G') (h0 : I 0 [] (G1 ++ [.lst []]))
    (step : ∀ (i : Nat) (x : U) (dx : PyData), ds[i]? = some dx → Dt b G1 x dx → ∀ (acc : List U) (G : Gp), I i acc G → G[G1.length]? = some (.lst acc) → Wp (gf x (wipeE env own) G) (KCo1 G1.length acc ft fe I i) noX)
    (fin : ∀ acc G, acc.length ≤ ds.length → I ds.length acc G → G[G1.length]? = some (.lst acc) → P (.ref G1.length) G) : Wp (eComp own (iOf f kSeq) gf ft fe env G) P E := by
  obtain ⟨src, us, h1, h2, h3, h4⟩ : ∃ src us, kSeq u G1 = some src ∧ Dts b G1 us ds ∧ us.length < src.fuel ∧ ∀ i acc G, i ≤ us.length → I i acc G → src.at_ i G = some us[i]? := by
    cases h with
    | tup h => cases e; exact ⟨_, _, rfl, h, Nat.lt_succ_self _, fun _ _ _ _ _ => rfl⟩
    | @lst l xs ds hb hl h =>
      cases e
      refine ⟨.live (xs.length + 1) fun i G => match G[l]? with
        | some (.lst ys) => some ys[i]?
        | _ => none, xs, by unfold kSeq; (simp only [hl] <;> rfl), h, by simp [Src.fuel], fun i acc G hi hq => ?_⟩
      show (match G[l]? with
        | some (.lst ys) => some ys[i]?
        | _ => none) = _
      rw [(hI i acc G hq).at_ hb hl]
    | _ => exact nomatch e
  have hl := h2.len
  refine Wp_comp (xs := us) I (iOf_ok hf h1) ⟨h3, h4⟩ (by omega) h0 (fun i hi acc G hI hl => ?_) (fun acc G ha hI hg => fin acc G (by omega) (by rw [← hl]; exact hI) hg)
  obtain ⟨dx, hd, hr⟩ := h2.getU (i := i) (u := us[i]) (List.getElem?_eq_getElem hi)
  exact step i _ dx hd hr acc G hI hl
end FL

set_option Elab.async false
set_option linter.all false
set_option maxRecDepth 100000
set_option maxHeartbeats 4000000
set_option autoImplicit false
/-! comprehensions over ranges, pure ones over data; depth of data; ints -/
namespace FL
open PySem PySem.Spec L2
theorem Wp_compR {env : Ev} {G G1 : Gp} {own : List Nat} {fa : Ev → Gp → R (List U)} {gf : U → Ev → Gp → R Ev} {ft : Ev → Gp → R Bool} {fe : Ev → Gp → R U} {j : Int} {P : PUt} {E : XP} (I : Nat → List U → Gp → Prop) (hf : fa env G = .ok [.int j] G1)
    (h1 : -4611686018427387904 ≤ j) (h2 : j < 16777216) (h0 : I 0 [] (G1 ++ [.lst []]))
    (step : ∀ (i : Nat), i < j.toNat → ∀ (acc : List U) (G : Gp), I i acc G → G[G1.length]? = some (.lst acc) → Wp (gf (.int (i : Nat)) (wipeE env own) G) (KCo1 G1.length acc ft fe I i) noX)
    (fin : ∀ acc G, acc.length ≤ j.toNat → I j.toNat acc G → G[G1.length]? = some (.lst acc) → P (.ref G1.length) G) : Wp (eComp own (iOfs fa kRng1) gf ft fe env G) P E := by
  obtain ⟨src, e1, e2⟩ := gives_rng1 (I := fun i _ G => ∃ acc, I i acc G) h1 (show j < 4611686018427387904 by omega) (G := G1)
  have hl : (rng 0 j.toNat).length = j.toNat := by simp [rng]
  refine Wp_comp (xs := rng 0 j.toNat) I (iOfs_ok hf e1) ⟨e2.1, fun i acc G hi hI => e2.2 i [] G hi ⟨acc, hI⟩⟩ (by omega) h0 (fun i hi acc G hI hl2 => ?_) (fun acc G ha hI hg => fin acc G (by omega) (by rw [← hl]; exact hI) hg)
  have e : (rng 0 j.toNat)[i] = .int (i : Nat) := by simp [rng]
  rw [e]
  exact step i (by omega) acc G hI hl2
theorem Ex0.app (G : Gp) (xs : List OU) : Ex0 G (G ++ xs) := ⟨by simp, fun l h => List.getElem?_append_left h⟩
mutual
def dep : PyData → Nat
  | .list ds => deps ds + 1 + (if ds.length < 16777216 then 0 else 1000)
  | .tuple ds => deps ds + 1 + (if ds.length < 16777216 then 0 else 1000)
  | _ => 0
def deps : List PyData → Nat
  | [] => 0
  | d :: ds => max (dep d) (deps ds)
end
theorem dep_mem {d : PyData} : ∀ {ds : List PyData}, d ∈ ds → dep d ≤ deps ds
  | e :: ds, h => by
    unfold deps
    rcases List.mem_cons.mp h with h | h
    · subst h; omega
    · have := dep_mem h; omega
theorem dep_it {d : PyData} {ds : List PyData} (h : itD d = some ds) : dep d = deps ds + 1 + (if ds.length < 16777216 then 0 else 1000) := by
  cases d <;> cases h <;> unfold dep <;> rfl
theorem deps_le {k : Nat} : ∀ {ds : List PyData}, (∀ d ∈ ds, dep d ≤ k) → deps ds ≤ k
  | [], _ => by unfold deps; omega
  | d :: ds, h => by
    unfold deps
    have h1 := h d (by simp)
    have h2 := deps_le (ds := ds) (fun x hx => h x (by simp [hx]))
    omega
theorem ok_of_wp {α : Type} {r : R α} {P : α → Gp → Prop} (h : Wp r P noX) : ∃ a G', r = .ok a G' ∧ P a G' := h.ok
theorem eq_of_wp {α : Type} {r : R α} {a : α} {G' : Gp} (h : Wp r (fun x g => x = a ∧ g = G') noX) : r = .ok a G' := by
  obtain ⟨x, g, e, rfl, rfl⟩ := h.ok
  exact e
theorem eq_of_wpL {r : R (List U)} {a : List U} {G' : Gp} (h : Wp r (fun x g => x = a ∧ g = G') noX) : r = .ok a G' := by
  obtain ⟨x, g, e, rfl, rfl⟩ := h.ok
  exact e
theorem Wp_sumR {G : Gp} {l : Nat} {ns : List Int} {P : PUt} {E : XP} (h : G[l]? = some (.lst (ns.map .int))) : Wp (bSum [.ref l] G) P E ↔ P (.int ns.sum) G := by
  unfold bSum bInts
  simp only [show seqU G (.ref l) = some (ns.map .int) by rw [seqU_ref, h], intsU_map]
  rw [if_neg (by simp)]
  exact ⟨id, id⟩
theorem Wp_maxR {G : Gp} {l : Nat} {ns : List Int} {P : PUt} {E : XP} (h : G[l]? = some (.lst (ns.map .int))) (hn : ns ≠ []) : Wp (bMax [.ref l] G) P E ↔ P (.int (maxL ns)) G := by
  unfold bMax bInts
  simp only [show seqU G (.ref l) = some (ns.map .int) by rw [seqU_ref, h], intsU_map]
  rw [if_neg (by simp [hn])]
  exact ⟨id, id⟩
theorem D.int_eq {b : Nat} {G : Gp} {u : U} {i : Int} (h : Dt b G u (.int i)) : u = .int i := by cases h; rfl
/-- a row of ints that a value stands for -/
theorem Dt.ints {b : Nat} {G : Gp} {u : U} {d : PyData} (h : Dt b G u d) {ns : List Int} (e : itD d = some (ns.map .int)) : seqU G u = some (ns.map .int) := by
  obtain ⟨us, h1, h2⟩ := h.seq e
  rw [h1]
  congr 1
  clear h1 e h
  induction ns generalizing us with
  | nil => cases h2; rfl
  | cons n r ih =>
    cases h2 with
    | cons a t => rw [D.int_eq a, ih _ t]; rfl
theorem Wp_gSqD {b : Nat} {G : Gp} {u : U} {d : PyData} (h : Dt b G u d) {us : List U} (hs : seqU G u = some us) (gs : List U → Ev → Gp → R Ev) (n : Nat) (hn : us.length = n) (env : Ev) (P : PEt) (E : XP) : Wp (gSq gs n u env G) P E ↔ Wp (gs us env G) P E := by
  cases h with
  | tup h => cases hs; simp [hn]
  | lst hb hl h =>
    rw [seqU_ref, hl] at hs
    cases hs
    rw [Wp_gSqR gs n _ hl]
    simp [hn]
  | str => exact nomatch hs
  | _ => exact nomatch hs
theorem Wp_idxS {G : Gp} {u : U} {us : List U} {P : PUt} {E : XP} (hs : seqU G u = some us) (i : Int) : Wp (gIdx u (.int i) G) P E ↔ ∃ v, atI us i = some v ∧ P v G := Wp_idx i hs
/-! enumerate over data -/
theorem Ws_enumD {b : Nat} {gf : U → Ev → Gp → R Ev} {body : Ev → Gp → SR} {env : Ev} {G G0 G1 : Gp} {Q : Qs} {fa : Ev → Gp → R (List U)} {u : U} {d : PyData} {ds : List PyData} (I : Nat → Ev → Gp → Prop) (hf : fa env G = .ok [u] G1) (h : Dt b G0 u d) (e : itD d = some ds) (hI : ∀ i env G', I i env G' → Ext b G0 G') (h0 : I 0 env G1)
    (step : ∀ (i : Nat) (x : U) (dx : PyData), ds[i]? = some dx → Dt b G0 x dx → ∀ (e : Ev) (G : Gp), I i e G → Wp (gf (.tup [.int (i : Nat), x]) e G) (KTn body Q (I (i + 1))) (KX e Q))
    (fin : ∀ e G, I ds.length e G → Q.nx e G) : Ws (sFor (iOfs fa kEnum) gf body env G) Q := by
  obtain ⟨src, us, h1, h2, h3⟩ : ∃ src us, kEnum [u] G1 = some src ∧ Dts b G0 us ds ∧ Gives src (us.mapIdx fun i x => U.tup [.int (i : Nat), x]) I := by
    cases h with
    | tup h => cases e; exact ⟨_, _, rfl, h, gives_items⟩
    | @lst l xs ds hb hl h =>
      cases e
      refine ⟨.live (xs.length + 1) fun i G => match G[l]? with
        | some (.lst ys) => some (ys[i]?.map fun x => U.tup [.int (i : Nat), x])
        | _ => none, xs, by unfold kEnum; (simp only [(hI _ _ _ h0).at_ hb hl] <;> rfl), h, by simp [Src.fuel], fun i env G hi h2 => ?_⟩
      show (match G[l]? with
        | some (.lst ys) => some (ys[i]?.map fun x => U.tup [.int (i : Nat), x])
        | _ => none) = _
      rw [(hI i env G h2).at_ hb hl]
      simp
    | _ => exact nomatch e
  have hl := h2.len
  refine Ws_src (xs := us.mapIdx fun i x => U.tup [.int (i : Nat), x]) I (iOfs_ok hf h1) h3 h0 (fun i hi e G hI => ?_) (fun e G hI => fin e G (by rw [← hl]; simpa using hI))
  have hi' : i < us.length := by simpa using hi
  obtain ⟨dx, hd, hr⟩ := h2.getU (i := i) (u := us[i]) (List.getElem?_eq_getElem hi')
  have := step i _ dx hd hr e G hI
  simpa using this
/-! a pure comprehension -/
def KP3 (y : U) (G0 : Gp) : PUt := fun z G => G = G0 ∧ z = y
def KP2 (fe : FU) (b : Bool) (y : U) (G0 : Gp) (e : Ev) : PBt := fun c G => G = G0 ∧ c = b ∧ (b = true → Wp (fe e G0) (KP3 y G0) noX)
def KP1 (ft : FB) (fe : FU) (b : Bool) (y : U) (G0 : Gp) : PEt := fun e G => G = G0 ∧ Wp (ft e G0) (KP2 fe b y G0 e) noX
@[simp ↓] theorem KP3_ (y z : U) (G G0 : Gp) : KP3 y G0 z G ↔ G = G0 ∧ z = y := Iff.rfl
@[simp ↓] theorem KP2_ (fe : FU) (b c : Bool) (y : U) (G G0 : Gp) (e : Ev) : KP2 fe b y G0 e c G ↔ G = G0 ∧ c = b ∧ (b = true → Wp (fe e G0) (KP3 y G0) noX) := Iff.rfl
@[simp ↓] theorem KP1_ (ft : FB) (fe : FU) (b : Bool) (y : U) (G G0 : Gp) (e : Ev) : KP1 ft fe b y G0 e G ↔ G = G0 ∧ Wp (ft e G0) (KP2 fe b y G0 e) noX := Iff.rfl
theorem Dt.nwt {b : Nat} {G : Gp} {u : U} {d : PyData} (h : Dt b G u d) : ∀ xs, u ≠ .wt xs := by cases h <;> simp
theorem kSeq_of {G : Gp} {u : U} {us : List U} (h : seqU G u = some us) (hw : ∀ xs, u ≠ .wt xs) : ∃ src, kSeq u G = some src ∧ us.length < src.fuel ∧ ∀ i G', i ≤ us.length → Ex0 G G' → src.at_ i G' = some us[i]? := by
  cases u with
  | tup xs => cases h; exact ⟨_, rfl, Nat.lt_succ_self _, fun _ _ _ _ => rfl⟩
  | rl xs => cases h; exact ⟨_, rfl, Nat.lt_succ_self _, fun _ _ _ _ => rfl⟩
  | ref l =>
    rw [seqU_ref] at h
    cases e : G[l]? with
    | none => rw [e] at h; exact nomatch h
    | some o =>
      rw [e] at h
      cases o with
      | lst xs =>
        have h' : xs = us := Option.some.inj h
        subst h'
        refine ⟨.live (xs.length + 1) fun i G => match G[l]? with
          | some (.lst ys) => some ys[i]?
          | _ => none, by unfold kSeq; (simp only [e] <;> rfl), by simp [Src.fuel], fun i G' hi x => ?_⟩
        show (match G'[l]? with
          | some (.lst ys) => some ys[i]?
          | _ => none) = _
        rw [x.at_ e]
      | _ => exact absurd h (by simp)
  | wt xs => exact absurd rfl (hw xs)
  | _ => exact absurd h (by simp [seqU])
theorem Wp_compP {α : Type} {env : Ev} {G G1 : Gp} {own : List Nat} {f : Ev → Gp → R U} {gf : U → Ev → Gp → R Ev} {ft : Ev → Gp → R Bool} {fe : Ev → Gp → R U} {u : U} {us : List U} {as : List α} {P : PUt} {E : XP} (p : α → Bool) (g : α → U) (hf : f env G = .ok u G1) (hu : seqU G1 u = some us) (hw : ∀ xs, u ≠ .wt xs) (hl : us.length = as.length) (hlen : as.length < 16777216)
    (step : ∀ (i : Nat) (a : α) (x : U), as[i]? = some a → us[i]? = some x → ∀ G', Ex0 G1 G' → Wp (gf x (wipeE env own) G') (KP1 ft fe (p a) (g a) G') noX)
    (fin : ∀ G', Ex0 G1 G' → G'[G1.length]? = some (.lst ((as.filter p).map g)) → P (.ref G1.length) G') : Wp (eComp own (iOf f kSeq) gf ft fe env G) P E := by
  obtain ⟨src, h1, h2, h3⟩ := kSeq_of hu hw
  refine Wp_comp (xs := us) (fun i acc G' => Ex0 G1 G' ∧ acc = ((as.take i).filter p).map g) (iOf_ok hf h1) ⟨h2, fun i acc G hi h => h3 i G hi h.1⟩ (by omega) ⟨Ex0.push _ _, by simp⟩ (fun i hi acc G' hI hg => ?_) (fun acc G' ha hI hg => ?_)
  · obtain ⟨x, rfl⟩ := hI
    have hi' : i < as.length := by omega
    refine (step i as[i] us[i] (List.getElem?_eq_getElem hi') (List.getElem?_eq_getElem hi) G' x).imp ?_
    rintro e G2 ⟨rfl, h⟩
    refine h.imp ?_
    rintro c G3 ⟨rfl, rfl, h⟩
    have tk : as.take (i + 1) = as.take i ++ [as[i]] := by rw [List.take_succ_eq_append_getElem hi']
    cases hc : p as[i] with
    | false =>
      rw [KCo2_f]
      refine ⟨hg, x, ?_⟩
      rw [tk, List.filter_append, List.filter_cons_of_neg (by simp [hc])]
      simp
    | true =>
      rw [KCo2_t]
      refine (h hc).imp ?_
      rintro z G4 ⟨rfl, rfl⟩
      rw [KCo3_]
      refine ⟨hg, x.set (Nat.le_refl _) _, ?_⟩
      rw [tk, List.filter_append, List.filter_cons_of_pos (by simp [hc])]
      simp
  · obtain ⟨x, rfl⟩ := hI
    refine fin G' x ?_
    rw [hg, hl, List.take_length]
mutual
theorem Dt.weak {b b' : Nat} {G : Gp} (h : b' ≤ b) : ∀ {u : U} {d : PyData}, Dt b G u d → Dt b' G u d
  | _, _, .non => .non
  | _, _, .bl x => .bl x
  | _, _, .int i => .int i
  | _, _, .str x => .str x
  | _, _, .tup t => .tup (Dts.weak h t)
  | _, _, .lst hb hl t => .lst (Nat.lt_of_le_of_lt h hb) hl (Dts.weak h t)
theorem Dts.weak {b b' : Nat} {G : Gp} (h : b' ≤ b) : ∀ {us : List U} {ds : List PyData}, Dts b G us ds → Dts b' G us ds
  | _, _, .nil => .nil
  | _, _, .cons x t => .cons (Dt.weak h x) (Dts.weak h t)
end
end FL

set_option Elab.async false
set_option linter.all false
set_option maxRecDepth 100000
set_option maxHeartbeats 8000000
set_option autoImplicit false

namespace K06
open PySem PySem.Spec L2 FL
set_option maxRecDepth 100000
def exT : List (Str × List Str) := [("InvalidLoad", ["InvalidLoad", "DealError"]), ("InvalidNumber", ["InvalidNumber", "DealError"]), ("NoMachine", ["NoMachine", "DealError"]), ("TooMany", ["TooMany", "DealError"])]
def g__law_source_1 : Ev → Gp → SR := (sExpr (eMeth mAppend (eVar 2) (aCons (eCall bInt (aCons (eVar 3) aNil)) aNil)))
def g__law_source_2 : Ev → Gp → SR := (sSeq (sAsg (eBin gMod (eCall bInt (aCons (eBin gAdd (eBin gAdd (eBin gMul (eVar 1) (eVar 1)) (eBin gMul (eCall bInt (aCons (eVar 3) aNil)) (eC (.int 48271)))) (eC (.int 7))) aNil)) (eC (.int 2305843009213693951))) (gNm 1)) (sIf (bVal (eBin gGe (eVar 3) (eBin gPow (eC (.int 10)) (eC (.int 18))))) g__law_source_1 sNil))
def g__law_source : Ev → Gp → SR := (sSeq (sAsg (eC (.int 20261119)) (gNm 1)) (sSeq (sAsg (eLst aNil) (gNm 2)) (sSeq (sFor (iOf (eSl (eVar 0) pNo (pInt (eC (.int 63)))) kSeq) (gNm 3) g__law_source_2) (sRet (eLst (aCons (eVar 2) (aCons (eC (.int 0)) (aCons (eVar 1) (aCons (eC (.int 0)) aNil)))))))))
def F__law_source : List U → Gp → R U := defF 1 4 g__law_source
theorem ar__law_source : Ar 1 F__law_source := ar_defF
theorem run__law_source (x0 : U) (G : Gp) : F__law_source [x0] G = fin (g__law_source [some x0, none, none, none] G) := defF_eq rfl G rfl
def g__law_take_1 : Ev → Gp → SR := (sAsg (eMeth mPopAt (eBin gIdx (eVar 0) (eC (.int 0))) (aCons (eC (.int 0)) aNil)) (gSubE (eVar 0) (eC (.int 1))))
def g__law_take_2 : Ev → Gp → SR := (sSeq (sAsg (eBin gMod (eCall bInt (aCons (eBin gIdx (eVar 0) (eC (.int 1))) aNil)) (eVar 1)) (gNm 2)) (sSeq (sAsg (eBin gFdiv (eBin gIdx (eVar 0) (eC (.int 1))) (eVar 1)) (gSubE (eVar 0) (eC (.int 1)))) (sRet (eVar 2))))
def g__law_take : Ev → Gp → SR := (sSeq (sIf (tAndB (bVal (eBin gLt (eBin gIdx (eVar 0) (eC (.int 1))) (eVar 1))) (bVal (eBin gGt (eCall bLen (aCons (eBin gIdx (eVar 0) (eC (.int 0))) aNil)) (eC (.int 0))))) g__law_take_1 sNil) (sSeq (sIf (bVal (eBin gGe (eBin gIdx (eVar 0) (eC (.int 1))) (eVar 1))) g__law_take_2 sNil) (sSeq (sAsg (eBin gAdd (eBin gIdx (eVar 0) (eC (.int 3))) (eC (.int 1))) (gSubE (eVar 0) (eC (.int 3)))) (sSeq (sAsg (eBin gMod (eCall bInt (aCons (eBin gAdd (eBin gMul (eBin gIdx (eVar 0) (eC (.int 2))) (eBin gIdx (eVar 0) (eC (.int 2)))) (eBin gMul (eBin gIdx (eVar 0) (eC (.int 3))) (eC (.int 69621)))) aNil)) (eC (.int 2305843009213693951))) (gSubE (eVar 0) (eC (.int 2)))) (sRet (eBin gMod (eCall bInt (aCons (eBin gFdiv (eBin gIdx (eVar 0) (eC (.int 2))) (eC (.int 4099))) aNil)) (eVar 1)))))))
def F__law_take : List U → Gp → R U := defF 2 3 g__law_take
theorem ar__law_take : Ar 2 F__law_take := ar_defF
theorem run__law_take (x0 x1 : U) (G : Gp) : F__law_take [x0, x1] G = fin (g__law_take [some x0, some x1, none] G) := defF_eq rfl G rfl
def g__law_machines : Ev → Gp → SR := (sRet (eBin gAdd (eC (.int 2)) (eCall F__law_take (aCons (eVar 0) (aCons (eBin gIdx (eTup (aCons (eC (.int 3)) (aCons (eC (.int 4)) (aCons (eC (.int 11)) aNil)))) (eCall F__law_take (aCons (eVar 0) (aCons (eC (.int 3)) aNil)))) aNil)))))
def F__law_machines : List U → Gp → R U := defF 1 1 g__law_machines
theorem ar__law_machines : Ar 1 F__law_machines := ar_defF
theorem run__law_machines (x0 : U) (G : Gp) : F__law_machines [x0] G = fin (g__law_machines [some x0] G) := defF_eq rfl G rfl
def g__law_drawn_load_1 : Ev → Gp → SR := (sSeq (sExpr (eMeth mAppend (eVar 6) (aCons (eTup (aCons (eBin gIdx (eVar 3) (eVar 7)) (aCons (eBin gIdx (eVar 3) (eVar 8)) (aCons (eVar 9) aNil)))) aNil))) (sAsg (eBin gSub (eVar 5) (eVar 9)) (gNm 5)))
def g__law_drawn_load_2 : Ev → Gp → SR := (sSeq (sAsg (eCall bMin2 (aCons (eBin gAdd (eC (.int 1)) (eCall F__law_take (aCons (eVar 0) (aCons (eBin gIdx (eTup (aCons (eC (.int 9)) (aCons (eC (.int 3)) (aCons (eC (.int 200)) (aCons (eC (.int 60)) (aCons (eC (.int 1)) (aCons (eC (.int 2)) aNil))))))) (eVar 4)) aNil)))) (aCons (eVar 5) aNil))) (gNm 9)) (sIf (bVal (eBin gGt (eVar 9) (eC (.int 0)))) g__law_drawn_load_1 sNil))
def g__law_drawn_load_3 : Ev → Gp → SR := (sIf (tAndB (bVal (eBin gNe (eVar 7) (eVar 8))) (bVal (eBin gEq (eCall F__law_take (aCons (eVar 0) (aCons (eBin gIdx (eTup (aCons (eVar 1) (aCons (eC (.int 2)) (aCons (eVar 1) (aCons (eC (.int 2)) (aCons (eC (.int 1)) (aCons (eC (.int 3)) aNil))))))) (eVar 4)) aNil))) (eC (.int 0))))) g__law_drawn_load_2 sNil)
def g__law_drawn_load_4 : Ev → Gp → SR := (sFor (iOfs (aCons (eVar 1) aNil) kRng1) (gNm 8) g__law_drawn_load_3)
def g__law_drawn_load : Ev → Gp → SR := (sSeq (sAsg (eUn gRgL1 (eVar 1)) (gNm 2)) (sSeq (sAsg (eComp [10] (iOfs (aCons (eVar 1) aNil) kRng1) (gNm 10) tYesB (eMeth mPopAt (eVar 2) (aCons (eCall F__law_take (aCons (eVar 0) (aCons (eCall bLen (aCons (eVar 2) aNil)) aNil))) aNil))) (gNm 3)) (sSeq (sAsg (eCall F__law_take (aCons (eVar 0) (aCons (eC (.int 6)) aNil))) (gNm 4)) (sSeq (sAsg (eC (.int 400)) (gNm 5)) (sSeq (sAsg (eLst aNil) (gNm 6)) (sSeq (sFor (iOfs (aCons (eVar 1) aNil) kRng1) (gNm 7) g__law_drawn_load_4) (sRet (eCall bTuple (aCons (eCall bSorted (aCons (eVar 6) aNil)) aNil)))))))))
def F__law_drawn_load : List U → Gp → R U := defF 2 11 g__law_drawn_load
theorem ar__law_drawn_load : Ar 2 F__law_drawn_load := ar_defF
theorem run__law_drawn_load (x0 x1 : U) (G : Gp) : F__law_drawn_load [x0, x1] G = fin (g__law_drawn_load [some x0, some x1, none, none, none, none, none, none, none, none, none] G) := defF_eq rfl G rfl
def g__law_same_1 (rec : List U → Gp → R U) : Ev → Gp → SR := (sSeq (sIf (tOrB (bVal (eBin gNe (eIs tbLst (eVar 0)) (eIs tbLst (eVar 1)))) (bVal (eBin gNe (eIs tbTup (eVar 0)) (eIs tbTup (eVar 1))))) (sRet (eC (.bl false))) sNil) (sSeq (sIf (bVal (eBin gNe (eCall bLen (aCons (eVar 0) aNil)) (eCall bLen (aCons (eVar 1) aNil)))) (sRet (eC (.bl false))) sNil) (sRet (eBin gEq (eCall bLen (aCons (eComp [2] (iOfs (aCons (eCall bLen (aCons (eVar 1) aNil)) aNil) kRng1) (gNm 2) (tNotB (bVal (eCall rec (aCons (eBin gIdx (eVar 0) (eVar 2)) (aCons (eBin gIdx (eVar 1) (eVar 2)) aNil))))) (eVar 2)) aNil)) (eC (.int 0))))))
def g__law_same_2 (rec : List U → Gp → R U) : Ev → Gp → SR := (sRet (eAnd (eIs tbInt (eVar 0)) (eBin gEq (eVar 0) (eVar 1))))
def g__law_same_3 (rec : List U → Gp → R U) : Ev → Gp → SR := (sRet (eAnd (eIs tbStr (eVar 0)) (eBin gEq (eVar 0) (eVar 1))))
def g__law_same (rec : List U → Gp → R U) : Ev → Gp → SR := (sSeq (sIf (bVal (eIs tbSeq (eVar 1))) (g__law_same_1 rec) sNil) (sSeq (sIf (bVal (eBin gNe (eIs tbBool (eVar 0)) (eIs tbBool (eVar 1)))) (sRet (eC (.bl false))) sNil) (sSeq (sIf (bVal (eIs tbInt (eVar 1))) (g__law_same_2 rec) sNil) (sSeq (sIf (bVal (eIs tbStr (eVar 1))) (g__law_same_3 rec) sNil) (sRet (eAnd (eBin gIsN (eVar 0) (eC .non)) (eBin gIsN (eVar 1) (eC .non))))))))
def F__law_same : Nat → List U → Gp → R U
  | 0 => badF
  | d + 1 => defF 2 3 (g__law_same (F__law_same d))
theorem ar__law_same : ∀ d, Ar 2 (F__law_same d)
  | 0 => ar_bad
  | d + 1 => ar_defF
theorem run__law_same (d : Nat) (x0 x1 : U) (G : Gp) : F__law_same (d + 1) [x0, x1] G = fin (g__law_same (F__law_same d) [some x0, some x1, none] G) := defF_eq rfl G rfl
def g__law_spoilt_1 : Ev → Gp → SR := (sRet (eBin gIdx (eTup (aCons (eVar 1) (aCons (eBin gAdd (eBin gAdd (eVar 1) (eC (.int 1))) (eCall F__law_take (aCons (eVar 0) (aCons (eC (.int 9)) aNil)))) (aCons (eBin gSub (eUn gNeg (eC (.int 1))) (eCall F__law_take (aCons (eVar 0) (aCons (eC (.int 3)) aNil)))) aNil)))) (eVar 2)))
def g__law_spoilt_2 : Ev → Gp → SR := (sRet (eBin gAdd (eBin gPow (eC (.int 10)) (eC (.int 30))) (eCall F__law_take (aCons (eVar 0) (aCons (eC (.int 1000)) aNil)))))
def g__law_spoilt_3 : Ev → Gp → SR := (sRet (eBin gEq (eCall F__law_take (aCons (eVar 0) (aCons (eC (.int 2)) aNil))) (eC (.int 1))))
def g__law_spoilt : Ev → Gp → SR := (sSeq (sAsg (eCall F__law_take (aCons (eVar 0) (aCons (eC (.int 10)) aNil))) (gNm 2)) (sSeq (sIf (bVal (eBin gLt (eVar 2) (eC (.int 3)))) g__law_spoilt_1 sNil) (sSeq (sIf (bVal (eBin gEq (eVar 2) (eC (.int 3)))) g__law_spoilt_2 sNil) (sSeq (sIf (bVal (eBin gLt (eVar 2) (eC (.int 6)))) g__law_spoilt_3 sNil) (sRet (eBin gIdx (eTup (aCons (eC .non) (aCons (eCall bStr (aCons (eCall F__law_take (aCons (eVar 0) (aCons (eC (.int 3)) aNil))) aNil)) (aCons (eLst (aCons (eCall F__law_take (aCons (eVar 0) (aCons (eC (.int 2)) aNil))) aNil)) (aCons (eTup (aCons (eCall F__law_take (aCons (eVar 0) (aCons (eC (.int 2)) aNil))) aNil)) aNil))))) (eBin gSub (eVar 2) (eC (.int 6)))))))))
def F__law_spoilt : List U → Gp → R U := defF 2 3 g__law_spoilt
theorem ar__law_spoilt : Ar 2 F__law_spoilt := ar_defF
theorem run__law_spoilt (x0 x1 : U) (G : Gp) : F__law_spoilt [x0, x1] G = fin (g__law_spoilt [some x0, some x1, none] G) := defF_eq rfl G rfl
def g__law_spoilt_row_1 : Ev → Gp → SR := (sRet (eBin gIdx (eTup (aCons (eSl (eVar 2) pNo (pInt (eC (.int 2)))) (aCons (eBin gAdd (eVar 2) (eLst (aCons (eC (.int 1)) aNil))) (aCons (eLst aNil) (aCons (eC .non) (aCons (eC (.str ("012" : Str))) (aCons (eC (.int 7)) aNil))))))) (eCall F__law_take (aCons (eVar 0) (aCons (eC (.int 6)) aNil)))))
def g__law_spoilt_row_2 : Ev → Gp → SR := (sAsg (eBin gIdx (eTup (aCons (eC (.int 0)) (aCons (eC (.int 201)) (aCons (eC (.bl true)) (aCons (eUn gNeg (eC (.int 3))) (aCons (eC .non) (aCons (eC (.str ("1" : Str))) (aCons (eLst (aCons (eC (.int 1)) aNil)) (aCons (eBin gPow (eC (.int 10)) (eC (.int 30))) aNil))))))))) (eCall F__law_take (aCons (eVar 0) (aCons (eC (.int 8)) aNil)))) (gSubE (eVar 2) (eC (.int 2))))
def g__law_spoilt_row_3 : Ev → Gp → SR := (sAsg (eLst (aCons (eBin gIdx (eVar 2) (eC (.int 1))) (aCons (eBin gIdx (eVar 2) (eC (.int 0))) (aCons (eBin gIdx (eVar 2) (eC (.int 2))) aNil)))) (gNm 2))
def g__law_spoilt_row_4 : Ev → Gp → SR := (sAsg (eBin gIdx (eVar 2) (eC (.int 0))) (gSubE (eVar 2) (eC (.int 1))))
def g__law_spoilt_row_5 : Ev → Gp → SR := (sIf (bVal (eBin gEq (eVar 3) (eC (.int 3)))) g__law_spoilt_row_2 g__law_spoilt_row_3)
def g__law_spoilt_row_6 : Ev → Gp → SR := (sAsg (eBin gIdx (eTup (aCons (eVar 1) (aCons (eUn gNeg (eC (.int 1))) (aCons (eC (.bl true)) (aCons (eC .non) (aCons (eC (.str ("0" : Str))) (aCons (eBin gPow (eC (.int 10)) (eC (.int 30))) (aCons (eC (.bl false)) aNil)))))))) (eCall F__law_take (aCons (eVar 0) (aCons (eC (.int 7)) aNil)))) (gSubE (eVar 2) (eCall F__law_take (aCons (eVar 0) (aCons (eC (.int 2)) aNil)))))
def g__law_spoilt_row_7 : Ev → Gp → SR := (sIf (bVal (eBin gEq (eVar 3) (eC (.int 2)))) g__law_spoilt_row_4 g__law_spoilt_row_5)
def g__law_spoilt_row : Ev → Gp → SR := (sSeq (sAsg (eCall F__law_take (aCons (eVar 0) (aCons (eC (.int 5)) aNil))) (gNm 3)) (sSeq (sIf (bVal (eBin gEq (eVar 3) (eC (.int 0)))) g__law_spoilt_row_1 sNil) (sSeq (sIf (bVal (eBin gEq (eVar 3) (eC (.int 1)))) g__law_spoilt_row_6 g__law_spoilt_row_7) (sRet (eVar 2)))))
def F__law_spoilt_row : List U → Gp → R U := defF 3 4 g__law_spoilt_row
theorem ar__law_spoilt_row : Ar 3 F__law_spoilt_row := ar_defF
theorem run__law_spoilt_row (x0 x1 x2 : U) (G : Gp) : F__law_spoilt_row [x0, x1, x2] G = fin (g__law_spoilt_row [some x0, some x1, some x2, none] G) := defF_eq rfl G rfl
def g__law_tupled : Ev → Gp → SR := (sSeq (sIf (bVal (eIs tbLst (eVar 0))) (sRet (eCall bTuple (aCons (eVar 0) aNil))) sNil) (sRet (eVar 0)))
def F__law_tupled : List U → Gp → R U := defF 1 1 g__law_tupled
theorem ar__law_tupled : Ar 1 F__law_tupled := ar_defF
theorem run__law_tupled (x0 : U) (G : Gp) : F__law_tupled [x0] G = fin (g__law_tupled [some x0] G) := defF_eq rfl G rfl
def g__law_spoilt_load_1 : Ev → Gp → SR := (sAsg (eLst (aCons (eLst (aCons (eC (.int 0)) (aCons (eC (.int 1)) (aCons (eBin gAdd (eC (.int 1)) (eCall F__law_take (aCons (eVar 0) (aCons (eC (.int 200)) aNil)))) aNil)))) aNil)) (gNm 3))
def g__law_spoilt_load_2 : Ev → Gp → SR := (sRet (eTup (aCons (eBin gIdx (eTup (aCons (eC (.int 1)) (aCons (eC (.int 13)) (aCons (eC (.int 0)) (aCons (eUn gNeg (eC (.int 2))) (aCons (eC (.bl true)) (aCons (eC .non) (aCons (eC (.str ("3" : Str))) (aCons (eTup (aCons (eC (.int 2)) aNil)) (aCons (eBin gPow (eC (.int 10)) (eC (.int 30))) aNil)))))))))) (eCall F__law_take (aCons (eVar 0) (aCons (eC (.int 9)) aNil)))) (aCons (eVar 2) aNil))))
def g__law_spoilt_load_3 : Ev → Gp → SR := (sRet (eTup (aCons (eVar 1) (aCons (eBin gIdx (eTup (aCons (eC .non) (aCons (eC (.str ("" : Str))) (aCons (eC (.str ("abc" : Str))) (aCons (eC (.int 7)) (aCons (eC (.bl true)) (aCons (eC (.bl false)) aNil))))))) (eCall F__law_take (aCons (eVar 0) (aCons (eC (.int 6)) aNil)))) aNil))))
def g__law_spoilt_load_4 : Ev → Gp → SR := (sSeq (sAsg (eCall F__law_take (aCons (eVar 0) (aCons (eCall bLen (aCons (eVar 3) aNil)) aNil))) (gNm 7)) (sAsg (eCall F__law_spoilt_row (aCons (eVar 0) (aCons (eVar 1) (aCons (eBin gIdx (eVar 3) (eVar 7)) aNil)))) (gSubE (eVar 3) (eVar 7))))
def g__law_spoilt_load_5 : Ev → Gp → SR := (sSeq (sAsg (eBin gIdx (eVar 3) (eVar 4)) (gNm 6)) (sSeq (sAsg (eBin gIdx (eVar 3) (eCall bMax2 (aCons (eC (.int 0)) (aCons (eBin gSub (eVar 4) (eC (.int 1))) aNil)))) (gSubE (eVar 3) (eVar 4))) (sAsg (eVar 6) (gSubE (eVar 3) (eCall bMax2 (aCons (eC (.int 0)) (aCons (eBin gSub (eVar 4) (eC (.int 1))) aNil)))))))
def g__law_spoilt_load_6 : Ev → Gp → SR := (sSeq (sAsg (eComp [9, 10] (iOf (eTup (aCons (eTup (aCons (eC (.int 0)) (aCons (eC (.int 1)) aNil))) (aCons (eTup (aCons (eC (.int 1)) (aCons (eC (.int 0)) aNil))) (aCons (eTup (aCons (eC (.int 1)) (aCons (eC (.int 2)) aNil))) (aCons (eTup (aCons (eC (.int 2)) (aCons (eC (.int 0)) aNil))) (aCons (eTup (aCons (eC (.int 2)) (aCons (eC (.int 1)) aNil))) aNil)))))) kSeq) (gTup (gCons (gNm 9) (gCons (gNm 10) gNil)) 2) tYesB (eLst (aCons (eVar 9) (aCons (eVar 10) (aCons (eBin gSub (eC (.int 200)) (eBin gMul (eBin gAdd (eVar 9) (eVar 10)) (eCall F__law_take (aCons (eVar 0) (aCons (eC (.int 2)) aNil))))) aNil))))) (gNm 3)) (sSeq (sAsg (eSl (eVar 3) pNo (pInt (eBin gAdd (eC (.int 3)) (eCall F__law_take (aCons (eVar 0) (aCons (eC (.int 3)) aNil)))))) (gNm 3)) (sIf (bVal (eBin gEq (eVar 5) (eC (.int 9)))) g__law_spoilt_load_4 sNil)))
def g__law_spoilt_load_7 : Ev → Gp → SR := (sAsg (eBin gAdd (eVar 3) (eLst (aCons (eMeth mPopAt (eVar 3) (aCons (eVar 4) aNil)) aNil))) (gNm 3))
def g__law_spoilt_load_8 : Ev → Gp → SR := (sIf (bVal (eBin gEq (eVar 5) (eC (.int 7)))) g__law_spoilt_load_5 g__law_spoilt_load_6)
def g__law_spoilt_load_9 : Ev → Gp → SR := (sExpr (eMeth mInsert (eVar 3) (aCons (eVar 4) (aCons (eCall bList (aCons (eBin gIdx (eVar 3) (eVar 4)) aNil)) aNil))))
def g__law_spoilt_load_10 : Ev → Gp → SR := (sIf (tAndB (bVal (eBin gEq (eVar 5) (eC (.int 7)))) (bVal (eBin gEq (eCall F__law_take (aCons (eVar 0) (aCons (eC (.int 3)) aNil))) (eC (.int 0))))) g__law_spoilt_load_7 g__law_spoilt_load_8)
def g__law_spoilt_load_11 : Ev → Gp → SR := (sAsg (eCall F__law_spoilt_row (aCons (eVar 0) (aCons (eVar 1) (aCons (eBin gIdx (eVar 3) (eVar 4)) aNil)))) (gSubE (eVar 3) (eVar 4)))
def g__law_spoilt_load_12 : Ev → Gp → SR := (sIf (bVal (eBin gEq (eVar 5) (eC (.int 6)))) g__law_spoilt_load_9 g__law_spoilt_load_10)
def g__law_spoilt_load : Ev → Gp → SR := (sSeq (sAsg (eComp [8] (iOf (eVar 2) kSeq) (gNm 8) tYesB (eCall bList (aCons (eVar 8) aNil))) (gNm 3)) (sSeq (sIf (bVal (eBin gEq (eCall bLen (aCons (eVar 3) aNil)) (eC (.int 0)))) g__law_spoilt_load_1 sNil) (sSeq (sAsg (eCall F__law_take (aCons (eVar 0) (aCons (eCall bLen (aCons (eVar 3) aNil)) aNil))) (gNm 4)) (sSeq (sAsg (eCall F__law_take (aCons (eVar 0) (aCons (eC (.int 10)) aNil))) (gNm 5)) (sSeq (sIf (bVal (eBin gEq (eVar 5) (eC (.int 0)))) g__law_spoilt_load_2 sNil) (sSeq (sIf (bVal (eBin gEq (eVar 5) (eC (.int 1)))) g__law_spoilt_load_3 sNil) (sSeq (sIf (bVal (eBin gLt (eVar 5) (eC (.int 6)))) g__law_spoilt_load_11 g__law_spoilt_load_12) (sSeq (sIf (bVal (eBin gEq (eCall F__law_take (aCons (eVar 0) (aCons (eC (.int 2)) aNil))) (eC (.int 0)))) (sRet (eTup (aCons (eVar 1) (aCons (eVar 3) aNil)))) sNil) (sRet (eTup (aCons (eVar 1) (aCons (eCall bTuple (aCons (eComp [6] (iOf (eVar 3) kSeq) (gNm 6) tYesB (eCall F__law_tupled (aCons (eVar 6) aNil))) aNil)) aNil))))))))))))
def F__law_spoilt_load : List U → Gp → R U := defF 3 11 g__law_spoilt_load
theorem ar__law_spoilt_load : Ar 3 F__law_spoilt_load := ar_defF
theorem run__law_spoilt_load (x0 x1 x2 : U) (G : Gp) : F__law_spoilt_load [x0, x1, x2] G = fin (g__law_spoilt_load [some x0, some x1, some x2, none, none, none, none, none, none, none, none] G) := defF_eq rfl G rfl
def g__law_whole : Ev → Gp → SR := (sRet (eAnd (eIs tbInt (eVar 0)) (eNot (eIs tbBool (eVar 0)))))
def F__law_whole : List U → Gp → R U := defF 1 1 g__law_whole
theorem ar__law_whole : Ar 1 F__law_whole := ar_defF
theorem run__law_whole (x0 : U) (G : Gp) : F__law_whole [x0] G = fin (g__law_whole [some x0] G) := defF_eq rfl G rfl
def g__law_triple : Ev → Gp → SR := (sSeq (sIf (tOrB (tNotB (bVal (eIs tbSeq (eVar 1)))) (bVal (eBin gNe (eCall bLen (aCons (eVar 1) aNil)) (eC (.int 3))))) (sRet (eC (.bl false))) sNil) (sSeq (sIf (bVal (eBin gGt (eCall bLen (aCons (eComp [2] (iOf (eVar 1) kSeq) (gNm 2) (tNotB (bVal (eCall F__law_whole (aCons (eVar 2) aNil)))) (eVar 2)) aNil)) (eC (.int 0)))) (sRet (eC (.bl false))) sNil) (sRet (eAnd (eChain gLe gLt (eC (.int 0)) (eBin gIdx (eVar 1) (eC (.int 0))) (eVar 0)) (eAnd (eChain gLe gLt (eC (.int 0)) (eBin gIdx (eVar 1) (eC (.int 1))) (eVar 0)) (eAnd (eBin gNe (eBin gIdx (eVar 1) (eC (.int 0))) (eBin gIdx (eVar 1) (eC (.int 1)))) (eChain gLe gLe (eC (.int 1)) (eBin gIdx (eVar 1) (eC (.int 2))) (eC (.int 200)))))))))
def F__law_triple : List U → Gp → R U := defF 2 3 g__law_triple
theorem ar__law_triple : Ar 2 F__law_triple := ar_defF
theorem run__law_triple (x0 x1 : U) (G : Gp) : F__law_triple [x0, x1] G = fin (g__law_triple [some x0, some x1, none] G) := defF_eq rfl G rfl
def g__law_fault_1 : Ev → Gp → SR := (sRet (eTup (aCons (eC (.str ("number" : Str))) (aCons (eVar 0) aNil))))
def g__law_fault_2 : Ev → Gp → SR := (sRet (eTup (aCons (eC (.str ("load" : Str))) (aCons (eC (.int 0)) aNil))))
def g__law_fault_3 : Ev → Gp → SR := (sRet (eTup (aCons (eC (.str ("load" : Str))) (aCons (eVar 4) aNil))))
def g__law_fault_4 : Ev → Gp → SR := (sSeq (sIf (tOrB (tNotB (bVal (eCall F__law_triple (aCons (eVar 0) (aCons (eBin gIdx (eVar 1) (eVar 4)) aNil))))) (bVal (eBin gLeA (eTup (aCons (eBin gIdx (eBin gIdx (eVar 1) (eVar 4)) (eC (.int 0))) (aCons (eBin gIdx (eBin gIdx (eVar 1) (eVar 4)) (eC (.int 1))) aNil))) (eVar 2)))) g__law_fault_3 sNil) (sSeq (sAsg (eTup (aCons (eBin gIdx (eBin gIdx (eVar 1) (eVar 4)) (eC (.int 0))) (aCons (eBin gIdx (eBin gIdx (eVar 1) (eVar 4)) (eC (.int 1))) aNil))) (gNm 2)) (sAsg (eBin gAdd (eVar 3) (eBin gIdx (eBin gIdx (eVar 1) (eVar 4)) (eC (.int 2)))) (gNm 3))))
def g__law_fault_5 : Ev → Gp → SR := (sRet (eTup (aCons (eC (.str ("many" : Str))) (aCons (eVar 3) aNil))))
def g__law_fault : Ev → Gp → SR := (sSeq (sIf (tOrB (tNotB (bVal (eCall F__law_whole (aCons (eVar 0) aNil)))) (tOrB (bVal (eBin gLt (eVar 0) (eC (.int 2)))) (bVal (eBin gGt (eVar 0) (eC (.int 12)))))) g__law_fault_1 sNil) (sSeq (sIf (tNotB (bVal (eIs tbSeq (eVar 1)))) g__law_fault_2 sNil) (sSeq (sAsg (eTup (aCons (eUn gNeg (eC (.int 1))) (aCons (eUn gNeg (eC (.int 1))) aNil))) (gNm 2)) (sSeq (sAsg (eC (.int 0)) (gNm 3)) (sSeq (sFor (iOfs (aCons (eCall bLen (aCons (eVar 1) aNil)) aNil) kRng1) (gNm 4) g__law_fault_4) (sSeq (sIf (bVal (eBin gGt (eVar 3) (eC (.int 400)))) g__law_fault_5 sNil) (sRet (eC .non))))))))
def F__law_fault : List U → Gp → R U := defF 2 5 g__law_fault
theorem ar__law_fault : Ar 2 F__law_fault := ar_defF
theorem run__law_fault (x0 x1 : U) (G : Gp) : F__law_fault [x0, x1] G = fin (g__law_fault [some x0, some x1, none, none, none] G) := defF_eq rfl G rfl
def g_is_integer : Ev → Gp → SR := (sRet (eAnd (eIs tbInt (eVar 0)) (eNot (eIs tbBool (eVar 0)))))
def F_is_integer : List U → Gp → R U := defF 1 1 g_is_integer
theorem ar_is_integer : Ar 1 F_is_integer := ar_defF
theorem run_is_integer (x0 : U) (G : Gp) : F_is_integer [x0] G = fin (g_is_integer [some x0] G) := defF_eq rfl G rfl
def g_is_from_to : Ev → Gp → SR := (sRet (eAnd (eCall F_is_integer (aCons (eVar 0) aNil)) (eChain gLe gLe (eVar 1) (eVar 0) (eVar 2))))
def F_is_from_to : List U → Gp → R U := defF 3 3 g_is_from_to
theorem ar_is_from_to : Ar 3 F_is_from_to := ar_defF
theorem run_is_from_to (x0 x1 x2 : U) (G : Gp) : F_is_from_to [x0, x1, x2] G = fin (g_is_from_to [some x0, some x1, some x2] G) := defF_eq rfl G rfl
def g_check_number : Ev → Gp → SR := (sIf (tNotB (bVal (eCall F_is_from_to (aCons (eVar 0) (aCons (eVar 1) (aCons (eVar 2) aNil)))))) (sRaise "InvalidNumber" ["number"] (aCons (eVar 0) aNil)) sNil)
def F_check_number : List U → Gp → R U := defF 3 3 g_check_number
theorem ar_check_number : Ar 3 F_check_number := ar_defF
theorem run_check_number (x0 x1 x2 : U) (G : Gp) : F_check_number [x0, x1, x2] G = fin (g_check_number [some x0, some x1, some x2] G) := defF_eq rfl G rfl
def g_is_triple : Ev → Gp → SR := (sSeq (sIf (tOrB (tNotB (bVal (eIs tbSeq (eVar 1)))) (bVal (eBin gNe (eCall bLen (aCons (eVar 1) aNil)) (eC (.int 3))))) (sRet (eC (.bl false))) sNil) (sSeq (sAsg (eVar 1) (gSq (gCons (gNm 2) (gCons (gNm 3) (gCons (gNm 4) gNil))) 3)) (sSeq (sIf (tOrB (tNotB (bVal (eCall F_is_from_to (aCons (eVar 2) (aCons (eC (.int 0)) (aCons (eBin gSub (eVar 0) (eC (.int 1))) aNil)))))) (tNotB (bVal (eCall F_is_from_to (aCons (eVar 3) (aCons (eC (.int 0)) (aCons (eBin gSub (eVar 0) (eC (.int 1))) aNil))))))) (sRet (eC (.bl false))) sNil) (sRet (eAnd (eBin gNe (eVar 2) (eVar 3)) (eCall F_is_from_to (aCons (eVar 4) (aCons (eC (.int 1)) (aCons (eC (.int 200)) aNil)))))))))
def F_is_triple : List U → Gp → R U := defF 2 5 g_is_triple
theorem ar_is_triple : Ar 2 F_is_triple := ar_defF
theorem run_is_triple (x0 x1 : U) (G : Gp) : F_is_triple [x0, x1] G = fin (g_is_triple [some x0, some x1, none, none, none] G) := defF_eq rfl G rfl
def g_checked_load_1 : Ev → Gp → SR := (sSeq (sIf (tNotB (bVal (eCall F_is_triple (aCons (eVar 0) (aCons (eVar 4) aNil))))) (sRaise "InvalidLoad" ["place"] (aCons (eVar 3) aNil)) sNil) (sSeq (sIf (tAndB (bVal (eBin gGt (eCall bLen (aCons (eVar 2) aNil)) (eC (.int 0)))) (bVal (eBin gLeA (eCall bTuple (aCons (eSl (eVar 4) pNo (pInt (eC (.int 2)))) aNil)) (eSl (eBin gIdx (eVar 2) (eUn gNeg (eC (.int 1)))) pNo (pInt (eC (.int 2))))))) (sRaise "InvalidLoad" ["place"] (aCons (eVar 3) aNil)) sNil) (sExpr (eMeth mAppend (eVar 2) (aCons (eCall bTuple (aCons (eVar 4) aNil)) aNil)))))
def g_checked_load : Ev → Gp → SR := (sSeq (sExpr (eCall F_check_number (aCons (eVar 0) (aCons (eC (.int 2)) (aCons (eC (.int 12)) aNil))))) (sSeq (sIf (tNotB (bVal (eIs tbSeq (eVar 1)))) (sRaise "InvalidLoad" ["place"] (aCons (eC (.int 0)) aNil)) sNil) (sSeq (sAsg (eLst aNil) (gNm 2)) (sSeq (sFor (iOfs (aCons (eVar 1) aNil) kEnum) (gTup (gCons (gNm 3) (gCons (gNm 4) gNil)) 2) g_checked_load_1) (sSeq (sAsg (eCall bSum (aCons (eComp [6, 6, 7] (iOf (eVar 2) kSeq) (gTup (gCons (gNm 6) (gCons (gNm 6) (gCons (gNm 7) gNil))) 3) tYesB (eVar 7)) aNil)) (gNm 5)) (sSeq (sIf (bVal (eBin gGt (eVar 5) (eC (.int 400)))) (sRaise "TooMany" ["many"] (aCons (eVar 5) aNil)) sNil) (sRet (eCall bTuple (aCons (eVar 2) aNil)))))))))
def F_checked_load : List U → Gp → R U := defF 2 8 g_checked_load
theorem ar_checked_load : Ar 2 F_checked_load := ar_defF
theorem run_checked_load (x0 x1 : U) (G : Gp) : F_checked_load [x0, x1] G = fin (g_checked_load [some x0, some x1, none, none, none, none, none, none] G) := defF_eq rfl G rfl
def g_check_machine : Ev → Gp → SR := (sIf (tNotB (bVal (eCall F_is_from_to (aCons (eVar 1) (aCons (eC (.int 0)) (aCons (eBin gSub (eVar 0) (eC (.int 1))) aNil)))))) (sRaise "NoMachine" ["machine"] (aCons (eVar 1) aNil)) sNil)
def F_check_machine : List U → Gp → R U := defF 2 2 g_check_machine
theorem ar_check_machine : Ar 2 F_check_machine := ar_defF
theorem run_check_machine (x0 x1 : U) (G : Gp) : F_check_machine [x0, x1] G = fin (g_check_machine [some x0, some x1] G) := defF_eq rfl G rfl
def g_sums_got : Ev → Gp → SR := (sSeq (sAsg (eBin gMul (eLst (aCons (eC (.int 0)) aNil)) (eVar 0)) (gNm 2)) (sSeq (sFor (iOf (eVar 1) kSeq) (gTup (gCons (gNm 3) (gCons (gNm 4) (gCons (gNm 5) gNil))) 3) (sAugSub gAugAdd (eVar 2) (eVar 4) (eVar 5))) (sRet (eVar 2))))
def F_sums_got : List U → Gp → R U := defF 2 6 g_sums_got
theorem ar_sums_got : Ar 2 F_sums_got := ar_defF
theorem run_sums_got (x0 x1 : U) (G : Gp) : F_sums_got [x0, x1] G = fin (g_sums_got [some x0, some x1, none, none, none, none] G) := defF_eq rfl G rfl
def g_got_of : Ev → Gp → SR := (sSeq (sAsg (eCall F_checked_load (aCons (eVar 0) (aCons (eVar 1) aNil))) (gNm 3)) (sSeq (sExpr (eCall F_check_machine (aCons (eVar 0) (aCons (eVar 2) aNil)))) (sRet (eBin gIdx (eCall F_sums_got (aCons (eVar 0) (aCons (eVar 3) aNil))) (eVar 2)))))
def F_got_of : List U → Gp → R U := defF 3 4 g_got_of
theorem ar_got_of : Ar 3 F_got_of := ar_defF
theorem run_got_of (x0 x1 x2 : U) (G : Gp) : F_got_of [x0, x1, x2] G = fin (g_got_of [some x0, some x1, some x2, none] G) := defF_eq rfl G rfl
def g_sums_said : Ev → Gp → SR := (sSeq (sAsg (eBin gMul (eLst (aCons (eC (.int 0)) aNil)) (eVar 0)) (gNm 2)) (sSeq (sFor (iOf (eVar 1) kSeq) (gTup (gCons (gNm 3) (gCons (gNm 4) (gCons (gNm 5) gNil))) 3) (sAugSub gAugAdd (eVar 2) (eVar 3) (eVar 5))) (sRet (eVar 2))))
def F_sums_said : List U → Gp → R U := defF 2 6 g_sums_said
theorem ar_sums_said : Ar 2 F_sums_said := ar_defF
theorem run_sums_said (x0 x1 : U) (G : Gp) : F_sums_said [x0, x1] G = fin (g_sums_said [some x0, some x1, none, none, none, none] G) := defF_eq rfl G rfl
def g_greatest_sum : Ev → Gp → SR := (sRet (eCall bMax (aCons (eBin gAdd (eCall F_sums_said (aCons (eVar 0) (aCons (eVar 1) aNil))) (eCall F_sums_got (aCons (eVar 0) (aCons (eVar 1) aNil)))) aNil)))
def F_greatest_sum : List U → Gp → R U := defF 2 2 g_greatest_sum
theorem ar_greatest_sum : Ar 2 F_greatest_sum := ar_defF
theorem run_greatest_sum (x0 x1 : U) (G : Gp) : F_greatest_sum [x0, x1] G = fin (g_greatest_sum [some x0, some x1] G) := defF_eq rfl G rfl
def g_busiest_1 : Ev → Gp → SR := (sRet (eTup (aCons (eVar 3) (aCons (eC (.str ("says" : Str))) (aCons (eVar 6) aNil)))))
def g_busiest_2 : Ev → Gp → SR := (sRet (eTup (aCons (eVar 3) (aCons (eC (.str ("gets" : Str))) (aCons (eVar 6) aNil)))))
def g_busiest_3 : Ev → Gp → SR := (sSeq (sIf (bVal (eBin gEq (eBin gIdx (eVar 4) (eVar 6)) (eVar 3))) g_busiest_1 sNil) (sIf (bVal (eBin gEq (eBin gIdx (eVar 5) (eVar 6)) (eVar 3))) g_busiest_2 sNil))
def g_busiest : Ev → Gp → SR := (sSeq (sAsg (eCall F_checked_load (aCons (eVar 0) (aCons (eVar 1) aNil))) (gNm 2)) (sSeq (sAsg (eCall F_greatest_sum (aCons (eVar 0) (aCons (eVar 2) aNil))) (gNm 3)) (sSeq (sAsg (eCall F_sums_said (aCons (eVar 0) (aCons (eVar 2) aNil))) (gNm 4)) (sSeq (sAsg (eCall F_sums_got (aCons (eVar 0) (aCons (eVar 2) aNil))) (gNm 5)) (sSeq (sFor (iOfs (aCons (eVar 0) aNil) kRng1) (gNm 6) g_busiest_3) (sRet (eTup (aCons (eVar 3) (aCons (eC (.str ("says" : Str))) (aCons (eC (.int 0)) aNil))))))))))
def F_busiest : List U → Gp → R U := defF 2 7 g_busiest
theorem ar_busiest : Ar 2 F_busiest := ar_defF
theorem run_busiest (x0 x1 : U) (G : Gp) : F_busiest [x0, x1] G = fin (g_busiest [some x0, some x1, none, none, none, none, none] G) := defF_eq rfl G rfl
def g_said_of : Ev → Gp → SR := (sSeq (sAsg (eCall F_checked_load (aCons (eVar 0) (aCons (eVar 1) aNil))) (gNm 3)) (sSeq (sExpr (eCall F_check_machine (aCons (eVar 0) (aCons (eVar 2) aNil)))) (sRet (eBin gIdx (eCall F_sums_said (aCons (eVar 0) (aCons (eVar 3) aNil))) (eVar 2)))))
def F_said_of : List U → Gp → R U := defF 3 4 g_said_of
theorem ar_said_of : Ar 3 F_said_of := ar_defF
theorem run_said_of (x0 x1 x2 : U) (G : Gp) : F_said_of [x0, x1, x2] G = fin (g_said_of [some x0, some x1, some x2, none] G) := defF_eq rfl G rfl
def g__law_call_1 : Ev → Gp → SR := (sRet (eCall F_busiest (aCons (eVar 1) (aCons (eVar 2) aNil))))
def g__law_call_2 : Ev → Gp → SR := (sRet (eCall F_said_of (aCons (eVar 1) (aCons (eVar 2) (aCons (eVar 3) aNil)))))
def g__law_call : Ev → Gp → SR := (sSeq (sIf (bVal (eBin gEq (eVar 0) (eC (.str ("busiest" : Str))))) g__law_call_1 sNil) (sSeq (sIf (bVal (eBin gEq (eVar 0) (eC (.str ("said" : Str))))) g__law_call_2 sNil) (sRet (eCall F_got_of (aCons (eVar 1) (aCons (eVar 2) (aCons (eVar 3) aNil)))))))
def F__law_call : List U → Gp → R U := defF 4 4 g__law_call
theorem ar__law_call : Ar 4 F__law_call := ar_defF
theorem run__law_call (x0 x1 x2 x3 : U) (G : Gp) : F__law_call [x0, x1, x2, x3] G = fin (g__law_call [some x0, some x1, some x2, some x3] G) := defF_eq rfl G rfl
def g__law_told_1 : Ev → Gp → SR := (sRet (eTup (aCons (eC (.str ("wrong" : Str))) (aCons (eC (.int 3)) aNil))))
def g__law_told_2 : Ev → Gp → SR := (sRet (eTup (aCons (eC (.str ("wrong" : Str))) (aCons (eC (.int 2)) aNil))))
def g__law_told_3 : Ev → Gp → SR := (sRet (eTup (aCons (eC (.str ("wrong" : Str))) (aCons (eC (.int 1)) aNil))))
def g__law_told_4 : Ev → Gp → SR := (sRet (eTup (aCons (eC (.str ("wrong" : Str))) (aCons (eC (.int 0)) aNil))))
def g__law_told_5 : Ev → Gp → SR := (sRet (eTup (aCons (eC (.str ("told" : Str))) (aCons (eCall F__law_call (aCons (eVar 0) (aCons (eVar 1) (aCons (eVar 2) (aCons (eVar 3) aNil))))) aNil))))
def g__law_told : Ev → Gp → SR := (sTry exT g__law_told_5 (("InvalidNumber", (some 4), (fun c fs => (sSeq (sIf (tOrB (bVal (eXis 4 (kitT exT c ["InvalidLoad", "NoMachine", "TooMany"]))) (tNotB (bVal (eXis 4 (kitT exT c ["DealError"]))))) g__law_told_4 sNil) (sRet (eTup (aCons (eC (.str ("number" : Str))) (aCons (eXf 4 fs "number") aNil))))))) :: (("InvalidLoad", (some 4), (fun c fs => (sSeq (sIf (tOrB (bVal (eXis 4 (kitT exT c ["NoMachine", "TooMany"]))) (tNotB (bVal (eXis 4 (kitT exT c ["DealError"]))))) g__law_told_3 sNil) (sRet (eTup (aCons (eC (.str ("load" : Str))) (aCons (eXf 4 fs "place") aNil))))))) :: (("TooMany", (some 4), (fun c fs => (sSeq (sIf (tOrB (bVal (eXis 4 (kitT exT c ["NoMachine"]))) (tNotB (bVal (eXis 4 (kitT exT c ["DealError"]))))) g__law_told_2 sNil) (sRet (eTup (aCons (eC (.str ("many" : Str))) (aCons (eXf 4 fs "many") aNil))))))) :: (("NoMachine", (some 4), (fun c fs => (sSeq (sIf (tOrB (tNotB (bVal (eXis 4 (kitT exT c ["DealError"])))) (tNotB (bVal (eXis 4 true)))) g__law_told_1 sNil) (sRet (eTup (aCons (eC (.str ("machine" : Str))) (aCons (eXf 4 fs "machine") aNil))))))) :: [])))))
def F__law_told : List U → Gp → R U := defF 4 5 g__law_told
theorem ar__law_told : Ar 4 F__law_told := ar_defF
theorem run__law_told (x0 x1 x2 x3 : U) (G : Gp) : F__law_told [x0, x1, x2, x3] G = fin (g__law_told [some x0, some x1, some x2, some x3, none] G) := defF_eq rfl G rfl
def g__law_all_1 : Ev → Gp → SR := (sIf (tNotB (bVal (eCall (F__law_same 40) (aCons (eCall F__law_told (aCons (eVar 4) (aCons (eVar 0) (aCons (eVar 1) (aCons (eVar 2) aNil))))) (aCons (eVar 3) aNil))))) (sRet (eC (.bl false))) sNil)
def g__law_all : Ev → Gp → SR := (sSeq (sFor (iOf (eTup (aCons (eC (.str ("busiest" : Str))) (aCons (eC (.str ("said" : Str))) (aCons (eC (.str ("got" : Str))) aNil)))) kSeq) (gNm 4) g__law_all_1) (sRet (eC (.bl true))))
def F__law_all : List U → Gp → R U := defF 4 5 g__law_all
theorem ar__law_all : Ar 4 F__law_all := ar_defF
theorem run__law_all (x0 x1 x2 x3 : U) (G : Gp) : F__law_all [x0, x1, x2, x3] G = fin (g__law_all [some x0, some x1, some x2, some x3, none] G) := defF_eq rfl G rfl
def g__law_scene : Ev → Gp → SR := (sSeq (sIf (tOrB (tNotB (bVal (eCall (F__law_same 40) (aCons (eCall F_busiest (aCons (eC (.int 2)) (aCons (eTup aNil) aNil))) (aCons (eTup (aCons (eC (.int 0)) (aCons (eC (.str ("says" : Str))) (aCons (eC (.int 0)) aNil)))) aNil))))) (tNotB (bVal (eCall (F__law_same 40) (aCons (eCall F_busiest (aCons (eC (.int 12)) (aCons (eLst (aCons (eTup (aCons (eC (.int 1)) (aCons (eC (.int 0)) (aCons (eC (.int 3)) aNil)))) aNil)) aNil))) (aCons (eTup (aCons (eC (.int 3)) (aCons (eC (.str ("gets" : Str))) (aCons (eC (.int 0)) aNil)))) aNil)))))) (sRet (eC (.bl false))) sNil) (sSeq (sIf (tNotB (bVal (eCall (F__law_same 40) (aCons (eCall F_busiest (aCons (eC (.int 3)) (aCons (eTup (aCons (eTup (aCons (eC (.int 0)) (aCons (eC (.int 1)) (aCons (eC (.int 200)) aNil)))) (aCons (eTup (aCons (eC (.int 0)) (aCons (eC (.int 2)) (aCons (eC (.int 200)) aNil)))) aNil))) aNil))) (aCons (eTup (aCons (eC (.int 400)) (aCons (eC (.str ("says" : Str))) (aCons (eC (.int 0)) aNil)))) aNil))))) (sRet (eC (.bl false))) sNil) (sSeq (sIf (tNotB (bVal (eCall (F__law_same 40) (aCons (eCall F_busiest (aCons (eC (.int 4)) (aCons (eTup (aCons (eTup (aCons (eC (.int 0)) (aCons (eC (.int 3)) (aCons (eC (.int 2)) aNil)))) (aCons (eTup (aCons (eC (.int 1)) (aCons (eC (.int 3)) (aCons (eC (.int 2)) aNil)))) (aCons (eTup (aCons (eC (.int 2)) (aCons (eC (.int 0)) (aCons (eC (.int 4)) aNil)))) aNil)))) aNil))) (aCons (eTup (aCons (eC (.int 4)) (aCons (eC (.str ("gets" : Str))) (aCons (eC (.int 0)) aNil)))) aNil))))) (sRet (eC (.bl false))) sNil) (sSeq (sIf (tNotB (bVal (eCall (F__law_same 40) (aCons (eCall F_busiest (aCons (eC (.int 4)) (aCons (eTup (aCons (eTup (aCons (eC (.int 0)) (aCons (eC (.int 3)) (aCons (eC (.int 3)) aNil)))) (aCons (eTup (aCons (eC (.int 1)) (aCons (eC (.int 3)) (aCons (eC (.int 2)) aNil)))) (aCons (eTup (aCons (eC (.int 2)) (aCons (eC (.int 1)) (aCons (eC (.int 5)) aNil)))) aNil)))) aNil))) (aCons (eTup (aCons (eC (.int 5)) (aCons (eC (.str ("gets" : Str))) (aCons (eC (.int 1)) aNil)))) aNil))))) (sRet (eC (.bl false))) sNil) (sSeq (sIf (tNotB (bVal (eCall F__law_all (aCons (eC (.int 3)) (aCons (eTup (aCons (eTup (aCons (eC (.int 0)) (aCons (eC (.int 1)) (aCons (eC (.int 200)) aNil)))) (aCons (eTup (aCons (eC (.int 0)) (aCons (eC (.int 2)) (aCons (eC (.int 200)) aNil)))) (aCons (eTup (aCons (eC (.int 1)) (aCons (eC (.int 2)) (aCons (eC (.int 1)) aNil)))) aNil)))) (aCons (eC (.int 5)) (aCons (eTup (aCons (eC (.str ("many" : Str))) (aCons (eC (.int 401)) aNil))) aNil))))))) (sRet (eC (.bl false))) sNil) (sSeq (sIf (tNotB (bVal (eCall F__law_all (aCons (eC (.int 3)) (aCons (eTup (aCons (eTup (aCons (eC (.int 0)) (aCons (eC (.int 1)) (aCons (eC (.int 200)) aNil)))) (aCons (eTup (aCons (eC (.int 0)) (aCons (eC (.int 2)) (aCons (eC (.int 200)) aNil)))) (aCons (eTup (aCons (eC (.int 1)) (aCons (eC (.int 2)) (aCons (eC (.int 201)) aNil)))) aNil)))) (aCons (eC (.int 5)) (aCons (eTup (aCons (eC (.str ("load" : Str))) (aCons (eC (.int 2)) aNil))) aNil))))))) (sRet (eC (.bl false))) sNil) (sRet (eAnd (eCall F__law_all (aCons (eC (.int 13)) (aCons (eTup (aCons (eTup (aCons (eC (.int 0)) (aCons (eC (.int 0)) (aCons (eC (.int 1)) aNil)))) aNil)) (aCons (eC .non) (aCons (eTup (aCons (eC (.str ("number" : Str))) (aCons (eC (.int 13)) aNil))) aNil))))) (eCall F__law_all (aCons (eC (.int 2)) (aCons (eLst (aCons (eLst (aCons (eC (.int 1)) (aCons (eC (.int 0)) (aCons (eC (.int 1)) aNil)))) (aCons (eLst (aCons (eC (.int 0)) (aCons (eC (.int 1)) (aCons (eC (.int 1)) aNil)))) aNil))) (aCons (eC (.int 0)) (aCons (eTup (aCons (eC (.str ("load" : Str))) (aCons (eC (.int 1)) aNil))) aNil)))))))))))))
def F__law_scene : List U → Gp → R U := defF 0 0 g__law_scene
theorem ar__law_scene : Ar 0 F__law_scene := ar_defF
theorem run__law_scene (G : Gp) : F__law_scene [] G = fin (g__law_scene [] G) := defF_eq rfl G rfl
def g__law_busy_1 : Ev → Gp → SR := (sAsg (eTup (aCons (eVar 4) (aCons (eC (.str ("says" : Str))) (aCons (eVar 3) aNil)))) (gNm 2))
def g__law_busy_2 : Ev → Gp → SR := (sAsg (eTup (aCons (eVar 5) (aCons (eC (.str ("gets" : Str))) (aCons (eVar 3) aNil)))) (gNm 2))
def g__law_busy_3 : Ev → Gp → SR := (sSeq (sAsg (eCall bSum (aCons (eComp [6] (iOf (eVar 1) kSeq) (gNm 6) (bVal (eBin gEq (eBin gIdx (eVar 6) (eC (.int 0))) (eVar 3))) (eBin gIdx (eVar 6) (eC (.int 2)))) aNil)) (gNm 4)) (sSeq (sAsg (eCall bSum (aCons (eComp [6] (iOf (eVar 1) kSeq) (gNm 6) (bVal (eBin gEq (eBin gIdx (eVar 6) (eC (.int 1))) (eVar 3))) (eBin gIdx (eVar 6) (eC (.int 2)))) aNil)) (gNm 5)) (sSeq (sIf (bVal (eBin gGt (eVar 4) (eBin gIdx (eVar 2) (eC (.int 0))))) g__law_busy_1 sNil) (sIf (bVal (eBin gGt (eVar 5) (eBin gIdx (eVar 2) (eC (.int 0))))) g__law_busy_2 sNil))))
def g__law_busy : Ev → Gp → SR := (sSeq (sAsg (eTup (aCons (eC (.int 0)) (aCons (eC (.str ("says" : Str))) (aCons (eC (.int 0)) aNil)))) (gNm 2)) (sSeq (sFor (iOfs (aCons (eVar 0) aNil) kRng1) (gNm 3) g__law_busy_3) (sRet (eVar 2))))
def F__law_busy : List U → Gp → R U := defF 2 7 g__law_busy
theorem ar__law_busy : Ar 2 F__law_busy := ar_defF
theorem run__law_busy (x0 x1 : U) (G : Gp) : F__law_busy [x0, x1] G = fin (g__law_busy [some x0, some x1, none, none, none, none, none] G) := defF_eq rfl G rfl
def g__law_answers_1 : Ev → Gp → SR := (sSeq (sAsg (eCall bSum (aCons (eComp [5] (iOf (eVar 1) kSeq) (gNm 5) (bVal (eBin gEq (eBin gIdx (eVar 5) (eC (.int 0))) (eVar 2))) (eBin gIdx (eVar 5) (eC (.int 2)))) aNil)) (gNm 3)) (sSeq (sAsg (eCall bSum (aCons (eComp [5] (iOf (eVar 1) kSeq) (gNm 5) (bVal (eBin gEq (eBin gIdx (eVar 5) (eC (.int 1))) (eVar 2))) (eBin gIdx (eVar 5) (eC (.int 2)))) aNil)) (gNm 4)) (sSeq (sIf (tNotB (bVal (eCall (F__law_same 40) (aCons (eCall F__law_told (aCons (eC (.str ("said" : Str))) (aCons (eVar 0) (aCons (eVar 1) (aCons (eVar 2) aNil))))) (aCons (eTup (aCons (eC (.str ("told" : Str))) (aCons (eVar 3) aNil))) aNil))))) (sRet (eC (.bl false))) sNil) (sIf (tNotB (bVal (eCall (F__law_same 40) (aCons (eCall F__law_told (aCons (eC (.str ("got" : Str))) (aCons (eVar 0) (aCons (eVar 1) (aCons (eVar 2) aNil))))) (aCons (eTup (aCons (eC (.str ("told" : Str))) (aCons (eVar 4) aNil))) aNil))))) (sRet (eC (.bl false))) sNil))))
def g__law_answers : Ev → Gp → SR := (sSeq (sFor (iOfs (aCons (eVar 0) aNil) kRng1) (gNm 2) g__law_answers_1) (sRet (eCall (F__law_same 40) (aCons (eCall F__law_told (aCons (eC (.str ("busiest" : Str))) (aCons (eVar 0) (aCons (eVar 1) (aCons (eC (.int 0)) aNil))))) (aCons (eTup (aCons (eC (.str ("told" : Str))) (aCons (eCall F__law_busy (aCons (eVar 0) (aCons (eVar 1) aNil))) aNil))) aNil)))))
def F__law_answers : List U → Gp → R U := defF 2 6 g__law_answers
theorem ar__law_answers : Ar 2 F__law_answers := ar_defF
theorem run__law_answers (x0 x1 : U) (G : Gp) : F__law_answers [x0, x1] G = fin (g__law_answers [some x0, some x1, none, none, none, none] G) := defF_eq rfl G rfl
def g_law_1 : Ev → Gp → SR := (sIf (tNotB (bVal (eCall (F__law_same 40) (aCons (eCall F__law_told (aCons (eVar 7) (aCons (eVar 2) (aCons (eVar 3) (aCons (eVar 6) aNil))))) (aCons (eTup (aCons (eC (.str ("machine" : Str))) (aCons (eVar 6) aNil))) aNil))))) (sRet (eC (.bl false))) sNil)
def g_law_2 : Ev → Gp → SR := (sSeq (sAsg (eCall F__law_spoilt (aCons (eVar 1) (aCons (eVar 2) aNil))) (gNm 6)) (sFor (iOf (eTup (aCons (eC (.str ("said" : Str))) (aCons (eC (.str ("got" : Str))) aNil))) kSeq) (gNm 7) g_law_1))
def g_law_3 : Ev → Gp → SR := (sAsg (eCall F__law_spoilt (aCons (eVar 1) (aCons (eVar 2) aNil))) (gNm 6))
def g_law_4 : Ev → Gp → SR := (sIf (tNotB (bVal (eCall F__law_answers (aCons (eVar 8) (aCons (eVar 9) aNil))))) (sRet (eC (.bl false))) sNil)
def g_law_5 : Ev → Gp → SR := (sSeq (sAsg (eC (.int 0)) (gNm 6)) (sSeq (sIf (bVal (eBin gEq (eCall F__law_take (aCons (eVar 1) (aCons (eC (.int 2)) aNil))) (eC (.int 0)))) g_law_3 sNil) (sIf (tNotB (bVal (eCall F__law_all (aCons (eVar 8) (aCons (eVar 9) (aCons (eVar 6) (aCons (eVar 10) aNil))))))) (sRet (eC (.bl false))) sNil)))
def g_law_6 : Ev → Gp → SR := (sSeq (sAsg (eCall F__law_spoilt_load (aCons (eVar 1) (aCons (eVar 2) (aCons (eVar 3) aNil)))) (gTup (gCons (gNm 8) (gCons (gNm 9) gNil)) 2)) (sSeq (sAsg (eCall F__law_fault (aCons (eVar 8) (aCons (eVar 9) aNil))) (gNm 10)) (sIf (bVal (eBin gIsN (eVar 10) (eC .non))) g_law_4 g_law_5)))
def g_law : Ev → Gp → SR := (sSeq (sAsg (eCall F__law_source (aCons (eVar 0) aNil)) (gNm 1)) (sSeq (sAsg (eCall F__law_machines (aCons (eVar 1) aNil)) (gNm 2)) (sSeq (sAsg (eCall F__law_drawn_load (aCons (eVar 1) (aCons (eVar 2) aNil))) (gNm 3)) (sSeq (sAsg (eComp [11] (iOf (eVar 3) kSeq) (gNm 11) tYesB (eCall bList (aCons (eVar 11) aNil))) (gNm 4)) (sSeq (sIf (tOrB (tNotB (bVal (eCall F__law_answers (aCons (eVar 2) (aCons (eVar 3) aNil))))) (tNotB (bVal (eCall F__law_answers (aCons (eVar 2) (aCons (eVar 4) aNil)))))) (sRet (eC (.bl false))) sNil) (sSeq (sIf (tNotB (bVal (eCall (F__law_same 40) (aCons (eVar 4) (aCons (eComp [11] (iOf (eVar 3) kSeq) (gNm 11) tYesB (eCall bList (aCons (eVar 11) aNil))) aNil))))) (sRet (eC (.bl false))) sNil) (sSeq (sFor (iOfs (aCons (eC (.int 3)) aNil) kRng1) (gNm 5) g_law_2) (sSeq (sFor (iOfs (aCons (eC (.int 6)) aNil) kRng1) (gNm 5) g_law_6) (sRet (eAnd (eCall (F__law_same 40) (aCons (eCall F_busiest (aCons (eVar 2) (aCons (eVar 3) aNil))) (aCons (eCall F__law_busy (aCons (eVar 2) (aCons (eVar 3) aNil))) aNil))) (eCall F__law_scene aNil)))))))))))
def F_law : List U → Gp → R U := defF 1 12 g_law
theorem ar_law : Ar 1 F_law := ar_defF
theorem run_law (x0 : U) (G : Gp) : F_law [x0] G = fin (g_law [some x0, none, none, none, none, none, none, none, none, none, none, none] G) := defF_eq rfl G rfl
end K06

set_option Elab.async false
set_option linter.all false
set_option maxRecDepth 100000
set_option maxHeartbeats 4000000
set_option autoImplicit false
namespace K06
open PySem PySem.Spec L2 FL
theorem set_get {G : Gp} {l : Nat} {x y : OU} (h : G[l]? = some x) : (G.set l y)[l]? = some y := List.getElem?_set_self (List.getElem?_eq_some_iff.mp h).1
def Oth (G G' : Gp) : Prop := G'.length = G.length ∧ ∀ l, 2 < l → G'[l]? = G[l]?
theorem Oth.refl (G : Gp) : Oth G G := ⟨rfl, fun _ _ => rfl⟩
theorem Oth.trans {G G1 G2 : Gp} (a : Oth G G1) (b : Oth G1 G2) : Oth G G2 := ⟨b.1.trans a.1, fun l h => (b.2 l h).trans (a.2 l h)⟩
theorem oth_set {G : Gp} {l : Nat} (h : l ≤ 2) (o : OU) : Oth G (G.set l o) := ⟨by simp, fun m hm => by rw [List.getElem?_set_ne (by omega)]⟩
def Dr (G : Gp) : Prop := ∃ (a st c : Int) (gs : List Int), 0 ≤ st ∧ st < 2305843009213693951 ∧ G[2]? = some (.lst [.ref 0, .int a, .int st, .int c]) ∧ G[0]? = some (.lst (gs.map .int))
theorem set_gs {G : Gp} {l m : Nat} (h : l ≠ m) (o : OU) : (G.set l o)[m]? = G[m]? := List.getElem?_set_ne h
theorem take_spec {G : Gp} {m : Int} {P : U → Gp → Prop} {E : XP} (hD : Dr G) (hm : 0 < m) (hm2 : m < 1000000) (k : ∀ r G', 0 ≤ r → r < m → Oth G G' → Dr G' → P (.int r) G') : Wp (F__law_take [.ref 2, .int m] G) P E := by
  have hfd : FdOk m := fdOk hm (by omega)
  rw [run__law_take, Wp_fin]
  unfold g__law_take
  refine Ws_sq (fun e G1 => e = [some (.ref 2), some (.int m), none] ∧ Oth G G1 ∧ Dr G1) ?_ ?_
  · obtain ⟨a, st, c, gs, s0, s1, h2, h0⟩ := hD
    have id : ([some (.ref 2), some (.int m), none] : Ev) = [some (.ref 2), some (.int m), none] ∧ Oth G G ∧ Dr G := ⟨rfl, Oth.refl G, a, st, c, gs, s0, s1, h2, h0⟩
    by_cases c1 : a < m
    · cases gs with
      | nil => simp [Wp_idxR h2, c1, Wp_lenR h0, id]
      | cons z gs =>
        have hp : Wp (mPopAt (.ref 0) [.int 0] G) (KAs (gSubE (eVar 0) (eC (.int 1))) [some (.ref 2), some (.int m), none] ⟨fun e G1 => e = [some (.ref 2), some (.int m), none] ∧ Oth G G1 ∧ Dr G1, (Qf P E).rt, (Qf P E).bk, (Qf P E).ct, (Qf P E).ex⟩) (KX [some (.ref 2), some (.int m), none] ⟨fun e G1 => e = [some (.ref 2), some (.int m), none] ∧ Oth G G1 ∧ Dr G1, (Qf P E).rt, (Qf P E).bk, (Qf P E).ct, (Qf P E).ex⟩) := by
          refine (Wp_popAt h0 (k := 0) (u := .int z) (by simp) (by decide)).mpr ?_
          have h22 : (G.set 0 (.lst (gs.map .int)))[2]? = some (.lst [.ref 0, .int a, .int st, .int c]) := by rw [set_gs (by decide)]; exact h2
          simp [Wp_setU h22]
          refine ⟨(oth_set (by decide) _).trans (oth_set (by decide) _), z, st, c, gs, s0, s1, set_get h22, ?_⟩
          rw [set_gs (by decide)]
          exact set_get h0
        simp [Wp_idxR h2, c1, Wp_lenR h0, g__law_take_1, isLst_r h0, show (0 : Int) < (gs.length : Int) + 1 by omega]
        exact hp
    · simp [Wp_idxR h2, c1, id]
  · rintro e G1 ⟨rfl, o1, a, st, c, gs, s0, s1, h2, h0⟩
    by_cases c1 : m ≤ a
    · simp [Wp_idxR h2, c1, g__law_take_2, hm, hfd, Wp_setU h2]
      exact k _ _ (Int.emod_nonneg _ (by omega)) (Int.emod_lt_of_pos _ hm) (o1.trans (oth_set (by decide) _)) ⟨a / m, st, c, gs, s0, s1, set_get h2, by rw [set_gs (by decide)]; exact h0⟩
    · have h22 := set_get (y := OU.lst [.ref 0, .int a, .int st, .int (c + 1)]) h2
      generalize hs : (st * st + (c + 1) * 69621) % 2305843009213693951 = st'
      have b0 : 0 ≤ st' := by rw [← hs]; exact Int.emod_nonneg _ (by decide)
      have b1 : st' < 2305843009213693951 := by rw [← hs]; exact Int.emod_lt_of_pos _ (by decide)
      have h23 := set_get (y := OU.lst [.ref 0, .int a, .int st', .int (c + 1)]) h2
      have mo : mulOk st st = true := mulOk_1 (by omega) (by omega)
      simp [Wp_idxR h2, c1, Wp_setU h2, Wp_idxR h22, Wp_setU h22, hs, Wp_idxR h23, mo, hm]
      exact k _ _ (Int.emod_nonneg _ (by omega)) (Int.emod_lt_of_pos _ hm) (o1.trans (oth_set (by decide) _)) ⟨a, st', c + 1, gs, b0, b1, h23, by rw [set_gs (by decide)]; exact h0⟩
end K06

set_option Elab.async false
set_option linter.all false
set_option maxRecDepth 100000
set_option maxHeartbeats 4000000
set_option autoImplicit false
namespace K06
open PySem PySem.Spec L2 FL
theorem eq_of_wp {α : Type} {r : R α} {a : α} {G' : Gp} (h : Wp r (fun x g => x = a ∧ g = G') noX) : r = .ok a G' := by
  obtain ⟨x, g, e, rfl, rfl⟩ := h.ok
  exact e
abbrev D2 (G : Gp) := Dt 2 G
def isI : PyData → Bool
  | .int _ => true
  | _ => false
theorem is_integer_spec {G : Gp} {u : U} {d : PyData} (h : D2 G u d) : F_is_integer [u] G = .ok (.bl (isI d)) G := by
  rw [run_is_integer]
  refine eq_of_wp ?_
  rw [Wp_fin]
  unfold g_is_integer
  simp [Wp_isInt h, Wp_isBool h]
  cases d <;> simp [isIntD, isBoolD, isI, Wp_isBool h]
theorem whole_spec {G : Gp} {u : U} {d : PyData} (h : D2 G u d) : F__law_whole [u] G = .ok (.bl (isI d)) G := by
  rw [run__law_whole]
  refine eq_of_wp ?_
  rw [Wp_fin]
  unfold g__law_whole
  simp [Wp_isInt h, Wp_isBool h]
  cases d <;> simp [isIntD, isBoolD, isI, Wp_isBool h]
def inRd (d : PyData) (lo up : Int) : Bool := match d with
  | .int i => decide (lo ≤ i) && decide (i ≤ up)
  | _ => false
theorem is_from_to_spec {G : Gp} {u : U} {d : PyData} (h : D2 G u d) (lo up : Int) : F_is_from_to [u, .int lo, .int up] G = .ok (.bl (inRd d lo up)) G := by
  rw [run_is_from_to]
  refine eq_of_wp ?_
  rw [Wp_fin]
  unfold g_is_from_to
  simp [is_integer_spec h]
  cases h <;> simp [isI, inRd]
  rename_i i
  by_cases c : lo ≤ i <;> simp [c]
theorem check_number_spec {G : Gp} {u : U} {d : PyData} (h : D2 G u d) (lo up : Int) : F_check_number [u, .int lo, .int up] G = if inRd d lo up = true then .ok .non G else .exc "InvalidNumber" [("number", u)] G := by
  rw [run_check_number]
  by_cases c : inRd d lo up = true
  · rw [if_pos c]
    refine eq_of_wp ?_
    rw [Wp_fin]
    unfold g_check_number
    simp [is_from_to_spec h, c]
  · rw [if_neg c]
    simp [g_check_number, is_from_to_spec h, c, sRaise]
def tripL (m : Int) : List PyData → Option (Int × Int × Int)
  | [.int a, .int b, .int c] => if 0 ≤ a ∧ a < m ∧ 0 ≤ b ∧ b < m ∧ a ≠ b ∧ 1 ≤ c ∧ c ≤ 200 then some (a, b, c) else none
  | _ => none
def tripD (m : Int) (d : PyData) : Option (Int × Int × Int) := (itD d).bind (tripL m)
theorem tripL_int (m a b c : Int) : tripL m [.int a, .int b, .int c] = if 0 ≤ a ∧ a < m ∧ 0 ≤ b ∧ b < m ∧ a ≠ b ∧ 1 ≤ c ∧ c ≤ 200 then some (a, b, c) else none := rfl
theorem tripL_none1 {m : Int} {x y z : PyData} (h : inRd x 0 (m - 1) = false) : tripL m [x, y, z] = none := by
  cases x <;> try rfl
  cases y <;> try rfl
  cases z <;> try rfl
  rename_i a b c
  rw [tripL_int]
  refine if_neg (fun k => ?_)
  simp [inRd] at h
  omega
theorem tripL_none2 {m : Int} {x y z : PyData} (h : inRd y 0 (m - 1) = false) : tripL m [x, y, z] = none := by
  cases x <;> try rfl
  cases y <;> try rfl
  cases z <;> try rfl
  rename_i a b c
  rw [tripL_int]
  refine if_neg (fun k => ?_)
  simp [inRd] at h
  omega
theorem tripL_none3 {m : Int} {x y z : PyData} (h : inRd z 1 200 = false) : tripL m [x, y, z] = none := by
  cases x <;> try rfl
  cases y <;> try rfl
  cases z <;> try rfl
  rename_i a b c
  rw [tripL_int]
  refine if_neg (fun k => ?_)
  simp [inRd] at h
  omega
theorem tripL_len {m : Int} {ds : List PyData} (h : ¬ds.length = 3) : tripL m ds = none := by
  unfold tripL
  split
  · exact absurd rfl h
  · rfl
theorem inRd_int {d : PyData} {lo up : Int} (h : inRd d lo up = true) : ∃ i, d = .int i ∧ lo ≤ i ∧ i ≤ up := by
  cases d with
  | int i => simp [inRd] at h; exact ⟨i, rfl, h⟩
  | _ => exact nomatch h
theorem D2.int_eq {G : Gp} {u : U} {i : Int} (h : D2 G u (.int i)) : u = .int i := by
  cases h
  rfl
theorem is_triple_spec {G : Gp} {u : U} {d : PyData} (h : D2 G u d) (m : Int) : F_is_triple [.int m, u] G = .ok (.bl (tripD m d).isSome) G := by
  rw [run_is_triple]
  refine eq_of_wp ?_
  rw [Wp_fin]
  unfold g_is_triple
  cases e : itD d with
  | none =>
    have e1 : isSeqD d = false := by cases d <;> first | rfl | exact nomatch e
    simp [Wp_isSeq h, e1, tripD, e]
  | some ds =>
    have e1 : isSeqD d = true := by cases d <;> first | rfl | exact nomatch e
    by_cases hl : ds.length = 3
    · obtain ⟨x, y, z, rfl⟩ : ∃ x y z, ds = [x, y, z] := by
        match ds, hl with
        | [x, y, z], _ => exact ⟨x, y, z, rfl⟩
      obtain ⟨us, h1, h2⟩ := h.seq e
      obtain ⟨u1, u2, u3, rfl, g1, g2, g3⟩ : ∃ u1 u2 u3, us = [u1, u2, u3] ∧ D2 G u1 x ∧ D2 G u2 y ∧ D2 G u3 z := by
        cases h2 with
        | cons a1 t => cases t with
          | cons a2 t => cases t with
            | cons a3 t => cases t; exact ⟨_, _, _, rfl, a1, a2, a3⟩
      have sq : ∀ (P : PEt) (E : XP) (gs : List U → Ev → Gp → R Ev) (env : Ev), Wp (gSq gs 3 u env G) P E ↔ Wp (gs [u1, u2, u3] env G) P E := by
        intro P E gs env
        cases h with
        | tup h => cases h1; simp
        | lst hb hl h =>
          rw [seqU_ref, hl] at h1
          cases h1
          rw [Wp_gSqR gs 3 _ hl]
          simp
        | _ => exact nomatch e
      simp [Wp_isSeq h, e1, Wp_len h e, sq, is_from_to_spec g1]
      have hd : tripD m d = tripL m [x, y, z] := by unfold tripD; rw [e]; rfl
      rw [hd]
      cases q1 : inRd x 0 (m - 1) with
      | false =>
        rw [tripL_none1 q1]
        simp
      | true =>
        obtain ⟨a, rfl, a1, a2⟩ := inRd_int q1
        cases D2.int_eq g1
        simp [is_from_to_spec g2]
        cases q2 : inRd y 0 (m - 1) with
        | false =>
          rw [tripL_none2 q2]
          simp
        | true =>
          obtain ⟨b, rfl, b1, b2⟩ := inRd_int q2
          cases D2.int_eq g2
          simp
          by_cases c : a = b
          · subst c
            have : tripL m [.int a, .int a, z] = none := by
              cases z <;> try rfl
              rw [tripL_int]
              exact if_neg (fun k => k.2.2.2.2.1 rfl)
            rw [this]
            simp
          · simp [c, is_from_to_spec g3]
            cases q3 : inRd z 1 200 with
            | false =>
              rw [tripL_none3 q3]
              simp
            | true =>
              obtain ⟨k, rfl, c1, c2⟩ := inRd_int q3
              rw [tripL_int, if_pos ⟨a1, by omega, b1, by omega, c, c1, c2⟩]
              simp
    · have ht : tripD m d = none := by
        unfold tripD
        rw [e]
        exact tripL_len hl
      simp [Wp_isSeq h, e1, Wp_len h e, ht]
      simp [show ¬ ((ds.length : Int) = 3) by omega]
end K06

set_option Elab.async false
set_option linter.all false
set_option maxRecDepth 100000
set_option maxHeartbeats 4000000
set_option autoImplicit false
namespace K06
open PySem PySem.Spec L2 FL
theorem same_true : ∀ (n : Nat) (d : PyData) (u v : U) (G : Gp), dep d < n → n ≤ 1000 → D2 G u d → D2 G v d → Wp (F__law_same n [u, v] G) (fun r G' => r = .bl true ∧ Ex0 G G') noX := by
  intro n
  induction n with
  | zero => intro d u v G h; omega
  | succ n ih =>
    intro d u v G hn hn2 h1 h2
    rw [run__law_same, Wp_fin]
    unfold g__law_same
    cases e : itD d with
    | some ds =>
      have e1 : isSeqD d = true := by cases d <;> first | rfl | exact nomatch e
      have hd := dep_it e
      have hb : ds.length < 16777216 := by
        by_cases c : ds.length < 16777216
        · exact c
        · rw [if_neg c] at hd; omega
      obtain ⟨us, s1, t1⟩ := h1.seq e
      obtain ⟨vs, s2, t2⟩ := h2.seq e
      simp [Wp_isSeq h2, e1, g__law_same_1, Wp_isLst h1, Wp_isLst h2, Wp_isTup h1, Wp_isTup h2, Wp_len h1 e, Wp_len h2 e]
      refine Wp_compR (j := ds.length) (G1 := G) (fun i acc G' => acc = [] ∧ Ex0 G G') ?_ (by omega) (by omega) ⟨rfl, Ex0.push _ _⟩ ?_ ?_
      · refine eq_of_wpL ?_
        simp [Wp_len h2 e]
      · rintro i hi acc G' ⟨rfl, x⟩ hl
        have hi' : i < ds.length := by simpa using hi
        have hx := List.getElem?_eq_getElem hi'
        obtain ⟨u1, a1, b1⟩ := t1.get hx
        obtain ⟨u2, a2, b2⟩ := t2.get hx
        have m1 := h1.mono x.ext
        have m2 := h2.mono x.ext
        obtain ⟨us', s1', t1'⟩ := m1.seq e
        obtain ⟨vs', s2', t2'⟩ := m2.seq e
        obtain ⟨u1, a1, b1⟩ := t1'.get hx
        obtain ⟨u2, a2, b2⟩ := t2'.get hx
        have k1 : atI us' (i : Int) = some u1 := atI_pos (by omega) (by simpa using a1)
        have k2 : atI vs' (i : Int) = some u2 := atI_pos (by omega) (by simpa using a2)
        have hdep : dep ds[i] < n := by have := dep_mem (List.getElem_mem hi'); omega
        simp [wipeE, Wp_idxS s1', Wp_idxS s2', k1, k2]
        refine (ih _ u1 u2 G' hdep (by omega) b1 b2).imp ?_
        rintro _ G2 ⟨rfl, x2⟩
        simp
        exact ⟨x2.at_ hl, x.trans x2⟩
      · rintro acc G' ha ⟨rfl, x⟩ hl
        simp [Wp_lenR hl]
        exact x
    | none =>
      have e1 : isSeqD d = false := by cases d <;> first | rfl | exact nomatch e
      have f1 := fun P E => @Wp_isBool _ _ _ _ P E h1
      have f2 := fun P E => @Wp_isBool _ _ _ _ P E h2
      have f3 := fun P E => @Wp_isInt _ _ _ _ P E h1
      have f4 := fun P E => @Wp_isInt _ _ _ _ P E h2
      have f5 := fun P E => @Wp_isStr _ _ _ _ P E h1
      have f6 := fun P E => @Wp_isStr _ _ _ _ P E h2
      simp [Wp_isSeq h2, e1]
      cases h1 <;> cases h2 <;> simp [f1, f2, f3, f4, f5, f6, isIntD, isBoolD, isStrD, Ex0.refl, g__law_same_2, g__law_same_3]
      all_goals exact nomatch e
end K06

set_option Elab.async false
set_option linter.all false
set_option maxRecDepth 100000
set_option maxHeartbeats 4000000
set_option autoImplicit false
namespace K06
open PySem PySem.Spec L2 FL
abbrev Tri := Int × Int × Int
def tU (t : Tri) : U := .tup [.int t.1, .int t.2.1, .int t.2.2]
def le2 (t s : Tri) : Bool := leI [t.1, t.2.1] [s.1, s.2.1]
def lastLe (acc : List Tri) (t : Tri) : Bool := match acc.getLast? with
  | none => false
  | some s => le2 t s
def goR (m : Int) : List PyData → Nat → List Tri → Nat ⊕ List Tri
  | [], _, acc => .inr acc
  | d :: ds, k, acc => match tripD m d with
    | none => .inl k
    | some t => if lastLe acc t = true then .inl k else goR m ds (k + 1) (acc ++ [t])
theorem goR_nil (m : Int) (k : Nat) (acc : List Tri) : goR m [] k acc = .inr acc := rfl
theorem goR_none {m : Int} {d : PyData} (h : tripD m d = none) (ds : List PyData) (k : Nat) (acc : List Tri) : goR m (d :: ds) k acc = .inl k := by
  rw [goR, h]
theorem goR_some {m : Int} {d : PyData} {t : Tri} (h : tripD m d = some t) (ds : List PyData) (k : Nat) (acc : List Tri) : goR m (d :: ds) k acc = if lastLe acc t = true then .inl k else goR m ds (k + 1) (acc ++ [t]) := by
  rw [goR, h]
def totl (ts : List Tri) : Int := (ts.map (·.2.2)).sum
inductive Vd where
  | number
  | load (k : Nat)
  | many (t : Int)
  | good (m : Int) (ts : List Tri)
def verd (dm dl : PyData) : Vd := match dm with
  | .int m => if 2 ≤ m ∧ m ≤ 12 then match itD dl with
      | none => .load 0
      | some ds => match goR m ds 0 [] with
        | .inl k => .load k
        | .inr ts => if 400 < totl ts then .many (totl ts) else .good m ts
    else .number
  | _ => .number
def excOf (v : Vd) (u : U) : Option (Str × List (Str × U)) := match v with
  | .number => some ("InvalidNumber", [("number", u)])
  | .load k => some ("InvalidLoad", [("place", .int k)])
  | .many t => some ("TooMany", [("many", .int t)])
  | .good _ _ => none
theorem trip_seq {m : Int} {d : PyData} {t : Tri} (h : tripD m d = some t) : itD d = some ([t.1, t.2.1, t.2.2].map .int) ∧ 0 ≤ t.1 ∧ t.1 < m ∧ 0 ≤ t.2.1 ∧ t.2.1 < m ∧ t.1 ≠ t.2.1 ∧ 1 ≤ t.2.2 ∧ t.2.2 ≤ 200 := by
  unfold tripD at h
  cases e : itD d with
  | none => rw [e] at h; exact nomatch h
  | some ds =>
    rw [e] at h
    have h : tripL m ds = some t := h
    unfold tripL at h
    split at h
    · split at h
      · rename_i c
        cases h
        exact ⟨rfl, c⟩
      · exact nomatch h
    · exact nomatch h
@[simp] theorem cutU2 {α : Type} (a b : α) (r : List α) : cutU (a :: b :: r) none (some 2) = [a, b] := by
  have h1 : HT.sIx (r.length + 1 + 1) 0 none = 0 := rfl
  have h2 : HT.sIx (r.length + 1 + 1) (r.length + 1 + 1) (some 2) = 2 := by
    simp [HT.sIx]
    try omega
  unfold cutU
  rw [show (a :: b :: r).length = r.length + 1 + 1 from rfl, h1, h2]
  rfl
theorem Wp_slTri {G : Gp} (s : Tri) {P : PUt} {E : XP} : Wp (gSl (tU s) none (some 2) G) P E ↔ P (.tup [.int s.1, .int s.2.1]) G := by
  simp [tU]
@[simp ↓] theorem Wp_leA2 {G : Gp} (a b c d : Int) {P : PUt} {E : XP} : Wp (gLeA (.tup [.int a, .int b]) (.tup [.int c, .int d]) G) P E ↔ P (.bl (leI [a, b] [c, d])) G := ⟨id, id⟩
/-- a slice, made a tuple -/
theorem Wp_tsl {G : Gp} {u : U} {d : PyData} {us : List U} {env : Ev} (h : D2 G u d) (hs : seqU G u = some us) (hi : Option Int) {P : PUt} {E : XP} (k : ∀ G', Ex0 G G' → P (.tup (cutU us none hi)) G') : Wp (gSl u none hi G) (KC1 aNil env (KCall bTuple P E) E) E := by
  cases h with
  | tup h => cases hs; simp; exact k G (Ex0.refl _)
  | lst hb hl h =>
    rw [seqU_ref, hl] at hs
    cases hs
    simp [Wp_slR hl, Wp_tupleR (push_at _ _)]
    exact k _ (Ex0.push _ _)
  | _ => exact absurd hs (by simp [seqU])
theorem Wp_tupD {G : Gp} {u : U} {d : PyData} {us : List U} (h : D2 G u d) (hs : seqU G u = some us) {P : PUt} {E : XP} : Wp (bTuple [u] G) P E ↔ P (.tup us) G := by
  rw [bTuple_seq hs (by cases h <;> simp)]
  exact ⟨id, id⟩
theorem last_le {ts : List Tri} {t s : Tri} (h : ts.getLast? = some s) : lastLe ts t = le2 t s := by unfold lastLe; rw [h]
theorem checked_load_spec {G : Gp} {um ul : U} {dm dl : PyData} (hm : D2 G um dm) (hl : D2 G ul dl) (h2 : 2 < G.length) (hb : ∀ ds, itD dl = some ds → ds.length < 16777216) : Wp (F_checked_load [um, ul] G) (fun u G' => Ex0 G G' ∧ ∃ m ts, verd dm dl = .good m ts ∧ u = .tup (ts.map tU)) (fun c fs G' => Ex0 G G' ∧ excOf (verd dm dl) um = some (c, fs)) := by
  rw [run_checked_load, Wp_fin]
  unfold g_checked_load
  by_cases cm : inRd dm 2 12 = true
  · obtain ⟨m, rfl, m1, m2⟩ := inRd_int cm
    have cn := check_number_spec hm 2 12
    rw [if_pos cm] at cn
    simp [cn]
    cases el : itD dl with
    | none =>
      have e1 : isSeqD dl = false := by cases dl <;> first | rfl | exact nomatch el
      simp [Wp_isSeq hl, e1]
      exact ⟨Ex0.refl _, by unfold verd; simp [m1, m2, el, excOf]⟩
    | some ds =>
      have e1 : isSeqD dl = true := by cases dl <;> first | rfl | exact nomatch el
      simp [Wp_isSeq hl, e1]
      cases D.int_eq hm
      have hv : verd (.int m) dl = match goR m ds 0 [] with
        | .inl k => .load k
        | .inr ts => if 400 < totl ts then .many (totl ts) else .good m ts := by
        unfold verd
        simp only [m1, m2, and_self, if_true, el]
      have hl1 := hl.mono (Ext.push (b := 2) G (.lst []))
      have hlen := hb ds el
      refine Ws_enumD (G0 := G) (G1 := G ++ [.lst []]) (fun i e G' => Ex0 G G' ∧ (∃ x3 x4, e = [some (.int m), some ul, some (.ref G.length), x3, x4, none, none, none]) ∧ ∃ acc : List Tri, acc.length ≤ i ∧ G'[G.length]? = some (.lst (acc.map tU)) ∧ goR m ds 0 [] = goR m (ds.drop i) i acc) ?_ hl el ?_ ?_ ?_ ?_
      · refine eq_of_wpL ?_
        simp
      · rintro i e G' ⟨x, _⟩
        exact x.ext
      · exact ⟨Ex0.push _ _, ⟨none, none, rfl⟩, [], by simp, push_at _ _, rfl⟩
      · rintro i x dx hx hD e G' ⟨x1, ⟨x3, x4, rfl⟩, acc, ha, hg, hgo⟩
        unfold g_checked_load_1
        have hi := (List.getElem?_eq_some_iff.mp hx).1
        have hdr : ds.drop i = dx :: ds.drop (i + 1) := by rw [List.drop_eq_getElem_cons hi, (List.getElem?_eq_some_iff.mp hx).2]
        have hD' := hD.mono x1.ext
        rw [hdr] at hgo
        have fails : ∀ G2, Ex0 G' G2 → goR m ds 0 [] = .inl i → Ex0 G G2 ∧ excOf (verd (.int m) dl) (.int m) = some (("InvalidLoad" : Str), [(("place" : Str), U.int (i : Int))]) := by
          intro G2 x2 hq
          refine ⟨x1.trans x2, ?_⟩
          rw [hv, hq]
          rfl
        cases ht : tripD m dx with
        | none =>
          rw [goR_none ht] at hgo
          have it := is_triple_spec hD' m
          simp [it, ht]
          exact fails _ (Ex0.refl _) hgo
        | some t =>
          rw [goR_some ht] at hgo
          have it := is_triple_spec hD' m
          obtain ⟨hs, t1, t2, t3, t4, t5, t6, t7⟩ := trip_seq ht
          have hu := hD'.ints hs
          have gl := lt_of_at hg
          simp [it, ht, Wp_lenR hg]
          rcases List.eq_nil_or_concat acc with rfl | ⟨acc', s, ec⟩
          · simp [isLst_r hg, Wp_tupD hD' hu, Wp_append hg]
            exact ⟨x1.set (Nat.le_refl _) _, [t], by simp, by rw [set_get hg]; simp [tU], hgo⟩
          · rw [List.concat_eq_append] at ec
            subst ec
            simp
            refine Wp_tsl hD' hu (some 2) fun G2 x2 => ?_
            have hg2 := x2.at_ hg
            have hD2 := hD'.mono x2.ext
            have hla : atI (List.map tU (acc' ++ [s])) (-1) = some (tU s) := atI_last (by simp)
            have hl' : lastLe (acc' ++ [s]) t = le2 t s := last_le (by simp)
            simp only [List.map_append, List.map_cons, List.map_nil] at hla hg2
            simp [Wp_idxR hg2, hla, Wp_slTri]
            cases c : le2 t s with
            | true =>
              rw [hl', if_pos c] at hgo
              unfold le2 at c
              simp [c]
              exact fails _ x2 hgo
            | false =>
              rw [hl', if_neg (by simp [c])] at hgo
              unfold le2 at c
              have ha' : acc'.length + 1 ≤ i := by simpa using ha
              simp [c, isLst_r hg2, Wp_tupD hD2 (hD2.ints hs), Wp_append hg2]
              refine ⟨by omega, (x1.trans x2).set (Nat.le_refl _) _, acc' ++ [s] ++ [t], by simp; omega, ?_, by simpa using hgo⟩
              rw [set_get hg2]
              simp [tU]
      · rintro e G' ⟨x1, ⟨x3, x4, rfl⟩, acc, ha, hg, hgo⟩
        rw [List.drop_length, goR_nil] at hgo
        have hu : seqU G' (.ref G.length) = some (acc.map tU) := by rw [seqU_ref, hg]
        simp
        refine Wp_compP (as := acc) (us := acc.map tU) (G1 := G') (fun _ => true) (fun t => .int t.2.2) (eq_of_wp (by simp)) hu (by simp) (by simp) (by omega) (fun i a x ha hx G2 x2 => ?_) (fun G2 x2 h2 => ?_)
        · simp [ha] at hx
          subst hx
          simp [tU, wipeE]
        · have h2' : G2[G'.length]? = some (.lst ((acc.map (·.2.2)).map .int)) := by rw [h2, List.filter_eq_self.mpr (fun _ _ => rfl)]; simp [Function.comp_def]
          rw [hgo] at hv
          have hv : verd (.int m) dl = if 400 < totl acc then .many (totl acc) else .good m acc := hv
          have hg2 := x2.at_ hg
          simp [Wp_sumR h2']
          by_cases c : 400 < totl acc
          · have c' : 400 < (acc.map (·.2.2)).sum := c
            simp [c']
            refine ⟨x1.trans x2, ?_⟩
            rw [hv, if_pos c]
            rfl
          · have c' : ¬ 400 < (acc.map (·.2.2)).sum := c
            simp [c', Wp_tupleR hg2]
            exact ⟨x1.trans x2, m, acc, by rw [hv, if_neg c], rfl⟩
  · have cn := check_number_spec hm 2 12
    rw [if_neg cm] at cn
    have hv : verd dm dl = .number := by
      unfold verd
      cases dm <;> try rfl
      simp [inRd] at cm
      simp; omega
    simp [cn, Ex0.refl, hv, excOf]
end K06

set_option Elab.async false
set_option linter.all false
set_option maxRecDepth 100000
set_option maxHeartbeats 4000000
set_option autoImplicit false
namespace K06
open PySem PySem.Spec L2 FL
/-- what a machine's triples add up to -/
def sm (f : Tri → Int) (ts : List Tri) (i : Int) : Int := ((ts.filter fun t => decide (f t = i)).map (·.2.2)).sum
abbrev fS : Tri → Int := fun t => t.1
abbrev fT : Tri → Int := fun t => t.2.1
def smL (f : Tri → Int) (m : Int) (ts : List Tri) : List Int := (List.range m.toNat).map fun (j : Nat) => sm f ts (j : Int)
theorem sm_app (f : Tri → Int) (ts : List Tri) (t : Tri) (i : Int) : sm f (ts ++ [t]) i = if f t = i then sm f ts i + t.2.2 else sm f ts i := by
  unfold sm
  by_cases c : f t = i
  · rw [if_pos c, List.filter_append, List.filter_cons_of_pos (by simp [c])]
    simp
  · rw [if_neg c, List.filter_append, List.filter_cons_of_neg (by simp [c])]
    simp
theorem smL_set (f : Tri → Int) {m : Int} (ts : List Tri) (t : Tri) (h0 : 0 ≤ f t) (h1 : f t < m) : (smL f m ts).set (f t).toNat (sm f ts (f t) + t.2.2) = smL f m (ts ++ [t]) := by
  apply List.ext_getElem
  · simp [smL]
  · intro i h2 h3
    have hi : i < m.toNat := by simpa [smL] using h3
    simp only [smL, List.getElem_set, List.getElem_map, List.getElem_range, sm_app]
    by_cases c : (f t).toNat = i
    · rw [if_pos c, if_pos (by omega)]
      congr 1
      congr 1
      omega
    · rw [if_neg c, if_neg (by omega)]
theorem smL_get (f : Tri → Int) {m : Int} (ts : List Tri) {i : Int} (h0 : 0 ≤ i) (h1 : i < m) : atI ((smL f m ts).map U.int) i = some (.int (sm f ts i)) := by
  refine atI_pos h0 ?_
  have : i.toNat < m.toNat := by omega
  simp [smL, this, show ((i.toNat : Nat) : Int) = i by omega]
theorem smL_len (f : Tri → Int) (m : Int) (ts : List Tri) : (smL f m ts).length = m.toNat := by simp [smL]
def OkT (m : Int) (ts : List Tri) : Prop := ∀ t ∈ ts, 0 ≤ t.1 ∧ t.1 < m ∧ 0 ≤ t.2.1 ∧ t.2.1 < m ∧ t.1 ≠ t.2.1 ∧ 1 ≤ t.2.2 ∧ t.2.2 ≤ 200
theorem goR_ok {m : Int} : ∀ {ds : List PyData} {k : Nat} {acc ts : List Tri}, goR m ds k acc = .inr ts → OkT m acc → OkT m ts
  | [], k, acc, ts, h, h2 => by rw [goR_nil] at h; cases h; exact h2
  | d :: ds, k, acc, ts, h, h2 => by
    cases e : tripD m d with
    | none => rw [goR_none e] at h; exact nomatch h
    | some t =>
      rw [goR_some e] at h
      split at h
      · exact nomatch h
      · refine goR_ok h fun x hx => ?_
        rcases List.mem_append.mp hx with hx | hx
        · exact h2 x hx
        · rw [List.mem_singleton.mp hx]; exact (trip_seq e).2
theorem goR_len {m : Int} : ∀ {ds : List PyData} {k : Nat} {acc ts : List Tri}, goR m ds k acc = .inr ts → ts.length = acc.length + ds.length
  | [], k, acc, ts, h => by rw [goR_nil] at h; cases h; simp
  | d :: ds, k, acc, ts, h => by
    cases e : tripD m d with
    | none => rw [goR_none e] at h; exact nomatch h
    | some t =>
      rw [goR_some e] at h
      split at h
      · exact nomatch h
      · have := goR_len h
        simp at this ⊢
        omega
theorem verd_good {dm dl : PyData} {m : Int} {ts : List Tri} (h : verd dm dl = .good m ts) : dm = .int m ∧ 2 ≤ m ∧ m ≤ 12 ∧ OkT m ts ∧ totl ts ≤ 400 ∧ ∃ ds, itD dl = some ds ∧ goR m ds 0 [] = .inr ts := by
  unfold verd at h
  split at h
  · rename_i n
    split at h
    · rename_i c
      split at h
      · exact nomatch h
      · rename_i ds e
        split at h
        · exact nomatch h
        · rename_i us g
          split at h
          · exact nomatch h
          · cases h
            exact ⟨rfl, c.1, c.2, goR_ok g (fun _ hx => by simp at hx), by omega, ds, e, g⟩
    · exact nomatch h
  · exact nomatch h
theorem check_machine_spec {G : Gp} {u : U} {d : PyData} (h : D2 G u d) (m : Int) : F_check_machine [.int m, u] G = if inRd d 0 (m - 1) = true then .ok .non G else .exc "NoMachine" [("machine", u)] G := by
  rw [run_check_machine]
  by_cases c : inRd d 0 (m - 1) = true
  · rw [if_pos c]
    refine eq_of_wp ?_
    rw [Wp_fin]
    unfold g_check_machine
    simp [is_from_to_spec h, c]
  · rw [if_neg c]
    simp [g_check_machine, is_from_to_spec h, c, sRaise]
theorem Wp_mulL {G : Gp} {l : Nat} {a : List U} {k : Int} {P : PUt} {E : XP} (h : G[l]? = some (.lst a)) : Wp (gMul (.ref l) (.int k) G) P E ↔ (-(2 ^ 63) ≤ k ∧ k < 2 ^ 63 ∧ a.length * k.toNat ≤ 16777216) ∧ P (.ref G.length) (G ++ [.lst (List.replicate k.toNat a).flatten]) := by
  unfold gMul
  simp only [h]
  exact if_iff
theorem rep1 (n : Nat) (x : U) : (List.replicate n [x]).flatten = List.replicate n x := by
  induction n with
  | zero => rfl
  | succ n ih => rw [List.replicate_succ, List.flatten_cons, ih]; rfl
theorem smL_nil (f : Tri → Int) (m : Int) : (smL f m []).map U.int = List.replicate m.toNat (.int 0) := by
  apply List.ext_getElem
  · simp [smL]
  · intro i h1 h2
    simp [smL, sm]
theorem sums_said_spec {G : Gp} {m : Int} {ts : List Tri} (h1 : 2 ≤ m) (h2 : m ≤ 12) (ok : OkT m ts) : Wp (F_sums_said [.int m, .tup (ts.map tU)] G) (fun u G' => Ex0 G G' ∧ ∃ l, u = .ref l ∧ G.length ≤ l ∧ G'[l]? = some (.lst ((smL fS m ts).map .int))) noX := by
  rw [run_sums_said, Wp_fin]
  unfold g_sums_said
  have e63 : (2 : Int) ^ 63 = 9223372036854775808 := by decide
  simp [Wp_mulL (push_at G _), e63]
  refine ⟨by omega, ?_⟩
  rw [← smL_nil fS]
  refine Ws_tup (xs := ts.map tU) (G1 := G ++ [.lst [.int 0], .lst ((smL fS m []).map .int)]) (fun i e G' => Ex0 G G' ∧ (∃ x3 x4 x5, e = [some (.int m), some (.tup (ts.map tU)), some (.ref (G.length + 1)), x3, x4, x5]) ∧ G'[G.length + 1]? = some (.lst ((smL fS m (ts.take i)).map .int))) (eq_of_wp (by simp)) ?_ ?_ ?_
  · refine ⟨Ex0.app _ _, ⟨none, none, none, rfl⟩, ?_⟩
    simp
  · rintro i hi e G' ⟨x, ⟨x3, x4, x5, rfl⟩, hg⟩
    have hi' : i < ts.length := by simpa using hi
    have tk : ts.take (i + 1) = ts.take i ++ [ts[i]] := by rw [List.take_succ_eq_append_getElem hi']
    obtain ⟨t1, t2, t3, t4, t5, t6, t7⟩ := ok ts[i] (List.getElem_mem hi')
    have ga := smL_get fS (ts.take i) t1 t2
    have ix : ixN (smL fS m (ts.take i)).length ts[i].1 = some ts[i].1.toNat := by
      unfold ixN
      rw [if_pos t1, smL_len, if_pos (by omega)]
    have st := smL_set fS (ts.take i) ts[i] t1 t2
    simp [tU, Wp_idxL hg, ga, t1, Wp_setU hg, ix]
    refine ⟨x.set (by omega) _, ?_⟩
    rw [set_get hg, tk, ← st, List.map_set]
  · rintro e G' ⟨x, ⟨x3, x4, x5, rfl⟩, hg⟩
    rw [List.length_map, List.take_length] at hg
    simp
    exact ⟨x, hg⟩
theorem sums_got_spec {G : Gp} {m : Int} {ts : List Tri} (h1 : 2 ≤ m) (h2 : m ≤ 12) (ok : OkT m ts) : Wp (F_sums_got [.int m, .tup (ts.map tU)] G) (fun u G' => Ex0 G G' ∧ ∃ l, u = .ref l ∧ G.length ≤ l ∧ G'[l]? = some (.lst ((smL fT m ts).map .int))) noX := by
  rw [run_sums_got, Wp_fin]
  unfold g_sums_got
  have e63 : (2 : Int) ^ 63 = 9223372036854775808 := by decide
  simp [Wp_mulL (push_at G _), e63]
  refine ⟨by omega, ?_⟩
  rw [← smL_nil fT]
  refine Ws_tup (xs := ts.map tU) (G1 := G ++ [.lst [.int 0], .lst ((smL fT m []).map .int)]) (fun i e G' => Ex0 G G' ∧ (∃ x3 x4 x5, e = [some (.int m), some (.tup (ts.map tU)), some (.ref (G.length + 1)), x3, x4, x5]) ∧ G'[G.length + 1]? = some (.lst ((smL fT m (ts.take i)).map .int))) (eq_of_wp (by simp)) ?_ ?_ ?_
  · refine ⟨Ex0.app _ _, ⟨none, none, none, rfl⟩, ?_⟩
    simp
  · rintro i hi e G' ⟨x, ⟨x3, x4, x5, rfl⟩, hg⟩
    have hi' : i < ts.length := by simpa using hi
    have tk : ts.take (i + 1) = ts.take i ++ [ts[i]] := by rw [List.take_succ_eq_append_getElem hi']
    obtain ⟨t1, t2, t3, t4, t5, t6, t7⟩ := ok ts[i] (List.getElem_mem hi')
    have ga := smL_get fT (ts.take i) t3 t4
    have ix : ixN (smL fT m (ts.take i)).length ts[i].2.1 = some ts[i].2.1.toNat := by
      unfold ixN
      rw [if_pos t3, smL_len, if_pos (by omega)]
    have st := smL_set fT (ts.take i) ts[i] t3 t4
    simp [tU, Wp_idxL hg, ga, t3, Wp_setU hg, ix]
    refine ⟨x.set (by omega) _, ?_⟩
    rw [set_get hg, tk, ← st, List.map_set]
  · rintro e G' ⟨x, ⟨x3, x4, x5, rfl⟩, hg⟩
    rw [List.length_map, List.take_length] at hg
    simp
    exact ⟨x, hg⟩
end K06

set_option Elab.async false
set_option linter.all false
set_option maxRecDepth 100000
set_option maxHeartbeats 4000000
set_option autoImplicit false
namespace K06
open PySem PySem.Spec L2 FL
def bestN (S T : Nat → Int) : Nat → Int × Bool × Nat
  | 0 => (0, false, 0)
  | n + 1 => if (if (bestN S T n).1 < S n then (S n, false, n) else bestN S T n).1 < T n then (T n, true, n) else if (bestN S T n).1 < S n then (S n, false, n) else bestN S T n
def Bst (S T : Nat → Int) (n : Nat) (b : Int × Bool × Nat) : Prop := (∀ i, i < n → S i ≤ b.1 ∧ T i ≤ b.1) ∧ (b = (0, false, 0) ∨ (b.2.2 < n ∧ 0 < b.1 ∧ (∀ k, k < b.2.2 → S k < b.1 ∧ T k < b.1) ∧ (b.2.1 = true → T b.2.2 = b.1 ∧ S b.2.2 < b.1) ∧ (b.2.1 = false → S b.2.2 = b.1)))
theorem Bst.nn {S T : Nat → Int} {n : Nat} {b : Int × Bool × Nat} (h : Bst S T n b) : 0 ≤ b.1 := by
  rcases h.2 with h | h
  · rw [h]; simp
  · omega
theorem bst {S T : Nat → Int} : ∀ n, Bst S T n (bestN S T n)
  | 0 => ⟨fun i h => by omega, .inl rfl⟩
  | n + 1 => by
    have h := bst (S := S) (T := T) n
    have nn := h.nn
    unfold bestN
    generalize bestN S T n = b at h nn
    obtain ⟨h1, h2⟩ := h
    by_cases c : b.1 < S n
    · rw [if_pos c]
      by_cases c2 : S n < T n
      · rw [if_pos c2]
        refine ⟨fun i hi => ?_, .inr ⟨by simp, by simp; omega, fun k hk => ?_, fun _ => ⟨rfl, c2⟩, fun z => by simp at z⟩⟩
        · by_cases e : i = n
          · subst e; simp; omega
          · have := h1 i (by omega); simp; omega
        · simp at hk ⊢; have := h1 k hk; omega
      · rw [if_neg c2]
        refine ⟨fun i hi => ?_, .inr ⟨by simp, by simp; omega, fun k hk => ?_, fun z => by simp at z, fun _ => rfl⟩⟩
        · by_cases e : i = n
          · subst e; simp; omega
          · have := h1 i (by omega); simp; omega
        · simp at hk ⊢; have := h1 k hk; omega
    · rw [if_neg c]
      by_cases c2 : b.1 < T n
      · rw [if_pos c2]
        refine ⟨fun i hi => ?_, .inr ⟨by simp, by simp; omega, fun k hk => ?_, fun _ => ⟨rfl, by simp; omega⟩, fun z => by simp at z⟩⟩
        · by_cases e : i = n
          · subst e; simp; omega
          · have := h1 i (by omega); simp; omega
        · simp at hk ⊢; have := h1 k hk; omega
      · rw [if_neg c2]
        refine ⟨fun i hi => ?_, ?_⟩
        · by_cases e : i = n
          · subst e; omega
          · exact h1 i (by omega)
        · rcases h2 with h2 | h2
          · exact .inl h2
          · exact .inr ⟨by omega, h2.2⟩
theorem first_s {S T : Nat → Int} {n : Nat} {b : Int × Bool × Nat} (h : Bst S T n b) {i : Nat} (hi : i < n) (hS : ∀ k, k < n → 0 ≤ S k) (before : ∀ k, k < i → S k ≠ b.1 ∧ T k ≠ b.1) (e : S i = b.1) : b = (b.1, false, i) := by
  rcases h.2 with h2 | ⟨h2, h3, h4, h5, h6⟩
  · by_cases c : i = 0
    · subst c; rw [h2]
    · have := before 0 (by omega)
      have := h.1 0 (by omega)
      have := hS 0 (by omega)
      have : b.1 = 0 := by rw [h2]
      omega
  · obtain ⟨m, w, j⟩ := b
    simp at *
    by_cases c : i < j
    · have := h4 i c; omega
    · by_cases c2 : j < i
      · have := before j c2
        cases w
        · simp at h6; omega
        · simp at h5; omega
      · have : i = j := by omega
        subst this
        cases w
        · simp
        · simp at h5; omega
theorem first_t {S T : Nat → Int} {n : Nat} {b : Int × Bool × Nat} (h : Bst S T n b) {i : Nat} (hi : i < n) (hS : ∀ k, k < n → 0 ≤ S k) (before : ∀ k, k < i → S k ≠ b.1 ∧ T k ≠ b.1) (ne : S i ≠ b.1) (e : T i = b.1) : b = (b.1, true, i) := by
  rcases h.2 with h2 | ⟨h2, h3, h4, h5, h6⟩
  · exfalso
    have b0 : b.1 = 0 := by rw [h2]
    have h0 := h.1 0 (by omega)
    have s0 := hS 0 (by omega)
    by_cases c : i = 0
    · subst c; omega
    · have := before 0 (by omega); omega
  · obtain ⟨m, w, j⟩ := b
    simp at *
    by_cases c : i < j
    · have := h4 i c; omega
    · by_cases c2 : j < i
      · have := before j c2
        cases w
        · simp at h6; omega
        · simp at h5; omega
      · have : i = j := by omega
        subst this
        cases w
        · simp at h6; omega
        · simp
def best (m : Int) (ts : List Tri) : Int × Bool × Nat := bestN (fun i => sm fS ts i) (fun i => sm fT ts i) m.toNat
def busyU (b : Int × Bool × Nat) : U := .tup [.int b.1, .str (if b.2.1 = true then ("gets" : Str) else ("says" : Str)), .int (b.2.2 : Nat)]
def busyD (b : Int × Bool × Nat) : PyData := .tuple [.int b.1, .str (if b.2.1 = true then ("gets" : Str) else ("says" : Str)), .int (b.2.2 : Nat)]
theorem sum_nn : ∀ {l : List Int}, (∀ x ∈ l, 0 ≤ x) → 0 ≤ l.sum
  | [], _ => by simp
  | x :: l, h => by
    have h1 := h x (by simp)
    have h2 := sum_nn (l := l) fun y hy => h y (by simp [hy])
    simp; omega
theorem sm_nn {m : Int} {ts : List Tri} (ok : OkT m ts) (f : Tri → Int) (i : Int) : 0 ≤ sm f ts i := by
  refine sum_nn fun x hx => ?_
  obtain ⟨t, ht, rfl⟩ := List.mem_map.mp hx
  have := ok t (List.mem_filter.mp ht).1
  omega
end K06

set_option Elab.async false
set_option linter.all false
set_option maxRecDepth 100000
set_option maxHeartbeats 4000000
set_option autoImplicit false
namespace K06
open PySem PySem.Spec L2 FL
theorem smL_mem {f : Tri → Int} {m : Int} {ts : List Tri} {x : Int} : x ∈ smL f m ts ↔ ∃ i : Nat, i < m.toNat ∧ sm f ts i = x := by
  simp [smL]
theorem max_best {m : Int} {ts : List Tri} (h1 : 2 ≤ m) (ok : OkT m ts) : maxL (smL fS m ts ++ smL fT m ts) = (best m ts).1 := by
  have B := bst (S := fun i => sm fS ts i) (T := fun i => sm fT ts i) m.toNat
  have hn : smL fS m ts ++ smL fT m ts ≠ [] := by
    intro e
    have := congrArg List.length e
    simp [smL_len] at this
    omega
  obtain ⟨a1, a2⟩ := maxL_spec hn
  have nn := B.nn
  have hle : maxL (smL fS m ts ++ smL fT m ts) ≤ (best m ts).1 := by
    rcases List.mem_append.mp a1 with h | h
    · obtain ⟨i, hi, e⟩ := smL_mem.mp h
      rw [← e]; exact (B.1 i hi).1
    · obtain ⟨i, hi, e⟩ := smL_mem.mp h
      rw [← e]; exact (B.1 i hi).2
  have hge : (best m ts).1 ≤ maxL (smL fS m ts ++ smL fT m ts) := by
    have B2 := B.2
    change best m ts = (0, false, 0) ∨ _ at B2
    rcases B2 with e | ⟨b1, b2, b3, b4, b5⟩
    · rw [e]
      have := a2 (sm fS ts (0 : Nat)) (List.mem_append_left _ (smL_mem.mpr ⟨0, by omega, rfl⟩))
      have := sm_nn ok fS (0 : Nat)
      simp at *; omega
    · cases hw : (best m ts).2.1 with
      | true =>
        have := (b4 hw).1
        rw [show (best m ts).1 = _ from this.symm]
        exact a2 _ (List.mem_append_right _ (smL_mem.mpr ⟨_, b1, rfl⟩))
      | false =>
        have := b5 hw
        rw [show (best m ts).1 = _ from this.symm]
        exact a2 _ (List.mem_append_left _ (smL_mem.mpr ⟨_, b1, rfl⟩))
  omega
theorem greatest_spec {G : Gp} {m : Int} {ts : List Tri} (h1 : 2 ≤ m) (h2 : m ≤ 12) (ok : OkT m ts) : Wp (F_greatest_sum [.int m, .tup (ts.map tU)] G) (fun u G' => Ex0 G G' ∧ u = .int (best m ts).1) noX := by
  rw [run_greatest_sum, Wp_fin]
  unfold g_greatest_sum
  simp
  refine (sums_said_spec h1 h2 ok).imp ?_
  rintro u G1 ⟨x1, l, rfl, hl, g1⟩
  simp
  refine (sums_got_spec (G := G1) h1 h2 ok).imp ?_
  rintro u G2 ⟨x2, k, rfl, hk, g2⟩
  have g1' := x2.at_ g1
  have hmap : G2 ++ [OU.lst ((smL fS m ts).map .int ++ (smL fT m ts).map .int)] = G2 ++ [OU.lst ((smL fS m ts ++ smL fT m ts).map .int)] := by rw [List.map_append]
  simp [Wp_addL l k g1' g2]
  refine ⟨by rw [smL_len, smL_len]; omega, ?_⟩
  rw [hmap]
  have hn : smL fS m ts ++ smL fT m ts ≠ [] := by
    intro e
    have := congrArg List.length e
    simp [smL_len] at this
    omega
  rw [Wp_maxR (push_at _ _) hn]
  simp [max_best h1 ok]
  exact (x1.trans x2).trans (Ex0.push _ _)
theorem said_of_spec {G : Gp} {um ul uu : U} {dm dl du : PyData} (hm : D2 G um dm) (hl : D2 G ul dl) (hu : D2 G uu du) (h2 : 2 < G.length) (hb : ∀ ds, itD dl = some ds → ds.length < 16777216) :
    Wp (F_said_of [um, ul, uu] G) (fun u G' => Ex0 G G' ∧ ∃ m ts i, verd dm dl = .good m ts ∧ du = .int i ∧ 0 ≤ i ∧ i < m ∧ u = .int (sm fS ts i)) (fun c fs G' => Ex0 G G' ∧ (excOf (verd dm dl) um = some (c, fs) ∨ ∃ m ts, verd dm dl = .good m ts ∧ inRd du 0 (m - 1) = false ∧ c = ("NoMachine" : Str) ∧ fs = [(("machine" : Str), uu)])) := by
  rw [run_said_of, Wp_fin]
  unfold g_said_of
  simp
  refine (checked_load_spec hm hl h2 hb).mono ?_ ?_
  · rintro u G1 ⟨x1, m, ts, hv, rfl⟩
    obtain ⟨rfl, m1, m2, ok, -, -⟩ := verd_good hv
    cases D.int_eq hm
    have cm := check_machine_spec (hu.mono x1.ext) m
    simp
    cases c : inRd du 0 (m - 1) with
    | false =>
      rw [c, if_neg (by decide)] at cm
      simp [cm]
      exact ⟨x1, .inr ⟨m, ⟨ts, hv⟩, c⟩⟩
    | true =>
      rw [c, if_pos rfl] at cm
      obtain ⟨i, rfl, i1, i2⟩ := inRd_int c
      cases D.int_eq hu
      simp [cm]
      refine (sums_said_spec (G := G1) m1 m2 ok).nox ?_
      rintro u G2 ⟨x2, l, rfl, hl, g⟩
      simp [Wp_idxR g, smL_get fS ts i1 (show i < m by omega)]
      exact ⟨x1.trans x2, m, ts, hv, i1, by omega, rfl⟩
  · rintro c fs G1 ⟨x1, he⟩
    exact ⟨x1, .inl he⟩
theorem got_of_spec {G : Gp} {um ul uu : U} {dm dl du : PyData} (hm : D2 G um dm) (hl : D2 G ul dl) (hu : D2 G uu du) (h2 : 2 < G.length) (hb : ∀ ds, itD dl = some ds → ds.length < 16777216) :
    Wp (F_got_of [um, ul, uu] G) (fun u G' => Ex0 G G' ∧ ∃ m ts i, verd dm dl = .good m ts ∧ du = .int i ∧ 0 ≤ i ∧ i < m ∧ u = .int (sm fT ts i)) (fun c fs G' => Ex0 G G' ∧ (excOf (verd dm dl) um = some (c, fs) ∨ ∃ m ts, verd dm dl = .good m ts ∧ inRd du 0 (m - 1) = false ∧ c = ("NoMachine" : Str) ∧ fs = [(("machine" : Str), uu)])) := by
  rw [run_got_of, Wp_fin]
  unfold g_got_of
  simp
  refine (checked_load_spec hm hl h2 hb).mono ?_ ?_
  · rintro u G1 ⟨x1, m, ts, hv, rfl⟩
    obtain ⟨rfl, m1, m2, ok, -, -⟩ := verd_good hv
    cases D.int_eq hm
    have cm := check_machine_spec (hu.mono x1.ext) m
    simp
    cases c : inRd du 0 (m - 1) with
    | false =>
      rw [c, if_neg (by decide)] at cm
      simp [cm]
      exact ⟨x1, .inr ⟨m, ⟨ts, hv⟩, c⟩⟩
    | true =>
      rw [c, if_pos rfl] at cm
      obtain ⟨i, rfl, i1, i2⟩ := inRd_int c
      cases D.int_eq hu
      simp [cm]
      refine (sums_got_spec (G := G1) m1 m2 ok).nox ?_
      rintro u G2 ⟨x2, l, rfl, hl, g⟩
      simp [Wp_idxR g, smL_get fT ts i1 (show i < m by omega)]
      exact ⟨x1.trans x2, m, ts, hv, i1, by omega, rfl⟩
  · rintro c fs G1 ⟨x1, he⟩
    exact ⟨x1, .inl he⟩
theorem busiest_spec {G : Gp} {um ul : U} {dm dl : PyData} (hm : D2 G um dm) (hl : D2 G ul dl) (h2 : 2 < G.length) (hb : ∀ ds, itD dl = some ds → ds.length < 16777216) :
    Wp (F_busiest [um, ul] G) (fun u G' => Ex0 G G' ∧ ∃ m ts, verd dm dl = .good m ts ∧ u = busyU (best m ts)) (fun c fs G' => Ex0 G G' ∧ excOf (verd dm dl) um = some (c, fs)) := by
  rw [run_busiest, Wp_fin]
  unfold g_busiest
  simp
  refine (checked_load_spec hm hl h2 hb).mono ?_ ?_
  · rintro u G1 ⟨x1, m, ts, hv, rfl⟩
    obtain ⟨rfl, m1, m2, ok, -, -⟩ := verd_good hv
    cases D.int_eq hm
    have B : Bst (fun i => sm fS ts i) (fun i => sm fT ts i) m.toNat (best m ts) := bst (S := fun i => sm fS ts i) (T := fun i => sm fT ts i) m.toNat
    simp
    refine (greatest_spec (G := G1) m1 m2 ok).nox ?_
    rintro u G2 ⟨x2, rfl⟩
    simp
    refine (sums_said_spec (G := G2) m1 m2 ok).nox ?_
    rintro u G3 ⟨x3, l, rfl, hl, g3⟩
    simp
    refine (sums_got_spec (G := G3) m1 m2 ok).nox ?_
    rintro u G4 ⟨x4, k, rfl, hk, g4⟩
    have g3' := x4.at_ g3
    have x04 := ((x1.trans x2).trans x3).trans x4
    simp
    refine Ws_rng1 (j := m) (G1 := G4) (fun i e G' => G' = G4 ∧ (∃ x6, e = [some (.int m), some ul, some (.tup (ts.map tU)), some (.int (best m ts).1), some (.ref l), some (.ref k), x6]) ∧ ∀ q : Nat, q < i → sm fS ts q ≠ (best m ts).1 ∧ sm fT ts q ≠ (best m ts).1) (eq_of_wpL (by simp)) (by omega) (by omega) ⟨rfl, ⟨none, rfl⟩, fun q hq => by omega⟩ ?_ ?_
    · rintro i hi e G' ⟨rfl, ⟨x6, rfl⟩, bf⟩
      have gs := smL_get fS (m := m) ts (i := (i : Int)) (by omega) (by omega)
      have gt := smL_get fT (m := m) ts (i := (i : Int)) (by omega) (by omega)
      unfold g_busiest_3
      simp [Wp_idxR g3', gs]
      by_cases c : sm fS ts i = (best m ts).1
      · have fb := first_s B hi (fun k _ => sm_nn ok fS k) bf c
        simp [c, g_busiest_1]
        refine ⟨x04, m, ts, hv, ?_⟩
        rw [fb]
        rfl
      · simp [c, Wp_idxR g4, gt]
        by_cases c2 : sm fT ts i = (best m ts).1
        · have fb := first_t B hi (fun k _ => sm_nn ok fS k) bf c c2
          simp [c2, g_busiest_2]
          refine ⟨x04, m, ts, hv, ?_⟩
          rw [fb]
          rfl
        · simp [c2]
          intro q hq
          by_cases e : q = i
          · subst e; exact ⟨c, c2⟩
          · exact bf q (by omega)
    · rintro e G' ⟨rfl, ⟨x6, rfl⟩, bf⟩
      exfalso
      have mb := max_best m1 ok
      have hn : smL fS m ts ++ smL fT m ts ≠ [] := by
        intro e
        have := congrArg List.length e
        simp [smL_len] at this
        omega
      obtain ⟨a1, a2⟩ := maxL_spec hn
      rw [mb] at a1
      rcases List.mem_append.mp a1 with h | h
      · obtain ⟨i, hi, e⟩ := smL_mem.mp h
        exact (bf i hi).1 e
      · obtain ⟨i, hi, e⟩ := smL_mem.mp h
        exact (bf i hi).2 e
  · rintro c fs G1 ⟨x1, he⟩
    exact ⟨x1, he⟩
end K06

set_option Elab.async false
set_option linter.all false
set_option maxRecDepth 100000
set_option maxHeartbeats 4000000
set_option autoImplicit false
namespace K06
open PySem PySem.Spec L2 FL
theorem isI_int {d : PyData} (h : isI d = true) : ∃ i, d = .int i := by
  cases d with
  | int i => exact ⟨i, rfl⟩
  | _ => exact nomatch h
theorem law_triple_spec {G : Gp} {u : U} {d : PyData} (h : D2 G u d) (m : Int) : Wp (F__law_triple [.int m, u] G) (fun r G' => Ex0 G G' ∧ r = .bl (tripD m d).isSome) noX := by
  rw [run__law_triple, Wp_fin]
  unfold g__law_triple
  cases e : itD d with
  | none =>
    have e1 : isSeqD d = false := by cases d <;> first | rfl | exact nomatch e
    simp [Wp_isSeq h, e1, tripD, e, Ex0.refl]
  | some ds =>
    have e1 : isSeqD d = true := by cases d <;> first | rfl | exact nomatch e
    by_cases hl : ds.length = 3
    · obtain ⟨us, hs, h2⟩ := h.seq e
      have hd : tripD m d = tripL m ds := by unfold tripD; rw [e]; rfl
      have hul := h2.len
      rw [hd]
      simp [Wp_isSeq h, e1, Wp_len h e, hl]
      refine Wp_compP (as := us.zip ds) (us := us) (G1 := G) (fun a => !isI a.2) (fun a => a.1) (eq_of_wp (by simp)) hs h.nwt (by simp; omega) (by simp; omega) (fun i a x ha hx G2 x2 => ?_) (fun G2 x2 hg => ?_)
      · have hzip := List.getElem?_zip_eq_some.mp ha
        rw [hx] at hzip
        obtain ⟨ha1, ha2⟩ := hzip
        have hx1 : a.1 = x := by simpa using ha1.symm
        obtain ⟨v, hv1, hv2⟩ := (h2.mono x2.ext).get ha2
        rw [hx] at hv1
        cases hv1
        simp [wipeE, whole_spec hv2, hx1]
      · simp [Wp_lenR hg]
        obtain ⟨x, y, z, rfl⟩ : ∃ x y z, ds = [x, y, z] := by
          match ds, hl with
          | [x, y, z], _ => exact ⟨x, y, z, rfl⟩
        obtain ⟨u1, u2, u3, rfl, g1, g2, g3⟩ : ∃ u1 u2 u3, us = [u1, u2, u3] ∧ D2 G u1 x ∧ D2 G u2 y ∧ D2 G u3 z := by
          cases h2 with
          | cons a1 t => cases t with
            | cons a2 t => cases t with
              | cons a3 t => cases t; exact ⟨_, _, _, rfl, a1, a2, a3⟩
        have hs2 : seqU G2 u = some [u1, u2, u3] := by
          obtain ⟨us', k1, k2⟩ := (h.mono x2.ext).seq e
          cases h with
          | tup _ => exact hs
          | lst hb hl' _ =>
            rw [seqU_ref, hl'] at hs
            rw [seqU_ref, x2.at_ hl', hs]
          | _ => exact nomatch e
        by_cases c : isI x = true ∧ isI y = true ∧ isI z = true
        · obtain ⟨c1, c2, c3⟩ := c
          obtain ⟨a, rfl⟩ := isI_int c1
          obtain ⟨b, rfl⟩ := isI_int c2
          obtain ⟨k, rfl⟩ := isI_int c3
          cases D.int_eq g1
          cases D.int_eq g2
          cases D.int_eq g3
          simp [isI, Wp_idxS hs2]
          rw [tripL_int]
          by_cases k1 : 0 ≤ a <;> simp [k1, x2, Wp_idxS hs2]
          by_cases k2 : a < m <;> simp [k2, x2, Wp_idxS hs2]
          by_cases k3 : 0 ≤ b <;> simp [k3, x2, Wp_idxS hs2]
          by_cases k4 : b < m <;> simp [k4, x2, Wp_idxS hs2]
          by_cases k5 : a = b <;> simp [k5, x2, Wp_idxS hs2]
          by_cases k6 : 1 ≤ k <;> simp [k6, x2, Wp_idxS hs2]
          by_cases k7 : k ≤ 200 <;> simp [k7]
        · have hn : tripL m [x, y, z] = none := by
            cases x <;> try rfl
            cases y <;> try rfl
            cases z <;> try rfl
            exact absurd ⟨rfl, rfl, rfl⟩ c
          have hlen : 0 < (List.filter (fun a => !isI a.2) [(u1, x), (u2, y), (u3, z)]).length := by
            refine List.length_pos_iff.mpr fun e0 => c ?_
            have := List.filter_eq_nil_iff.mp e0
            simp at this
            exact this
          simp at hlen
          simp [hlen, hn, x2]
    · have ht : tripD m d = none := by
        unfold tripD
        rw [e]
        exact tripL_len hl
      simp [Wp_isSeq h, e1, Wp_len h e, ht, Ex0.refl]
      simp [show ¬ ((ds.length : Int) = 3) by omega, Ex0.refl]
def faultD (dm : PyData) (v : Vd) : PyData := match v with
  | .number => .tuple [.str ("number" : Str), dm]
  | .load k => .tuple [.str ("load" : Str), .int (k : Nat)]
  | .many t => .tuple [.str ("many" : Str), .int t]
  | .good _ _ => .none
def lastP (acc : List Tri) : Int × Int := match acc.getLast? with
  | none => (-1, -1)
  | some s => (s.1, s.2.1)
theorem lastP_le {acc : List Tri} {t : Tri} (h : 0 ≤ t.1) : leI [t.1, t.2.1] [(lastP acc).1, (lastP acc).2] = lastLe acc t := by
  unfold lastP lastLe
  cases acc.getLast? with
  | none =>
    show leI [t.1, t.2.1] [-1, -1] = false
    unfold leI
    rw [if_neg (by omega)]
    simp; omega
  | some s => rfl
theorem lastP_app (acc : List Tri) (t : Tri) : lastP (acc ++ [t]) = (t.1, t.2.1) := by
  unfold lastP; simp
theorem totl_app (acc : List Tri) (t : Tri) : totl (acc ++ [t]) = totl acc + t.2.2 := by unfold totl; simp
theorem Dt.pair {b : Nat} {G : Gp} {w : Str} {u : U} {d : PyData} (h : Dt b G u d) : Dt b G (.tup [.str w, u]) (.tuple [.str w, d]) := .tup (.cons (.str w) (.cons h .nil))
theorem fault_spec {G : Gp} {um ul : U} {dm dl : PyData} (hm : D2 G um dm) (hl : D2 G ul dl) (hb : ∀ ds, itD dl = some ds → ds.length < 16777216) : Wp (F__law_fault [um, ul] G) (fun u G' => Ex0 G G' ∧ D2 G' u (faultD dm (verd dm dl))) noX := by
  rw [run__law_fault, Wp_fin]
  unfold g__law_fault
  have num : verd dm dl = .number → Ex0 G G ∧ D2 G (.tup [.str "number", um]) (faultD dm (verd dm dl)) := fun h => ⟨Ex0.refl _, by rw [h]; exact Dt.pair hm⟩
  simp [whole_spec hm]
  cases ci : isI dm with
  | false =>
    simp [g__law_fault_1]
    refine num ?_
    unfold verd
    cases dm <;> first | rfl | exact nomatch ci
  | true =>
    obtain ⟨m, rfl⟩ := isI_int ci
    cases D.int_eq hm
    simp
    by_cases c1 : m < 2
    · simp [c1, g__law_fault_1]
      exact num (if_neg (by omega))
    by_cases c2 : 12 < m
    · simp [c1, c2, g__law_fault_1]
      exact num (if_neg (by omega))
    simp [c1, c2]
    have hv0 : verd (.int m) dl = match itD dl with
        | none => .load 0
        | some ds => match goR m ds 0 [] with
          | .inl k => .load k
          | .inr ts => if 400 < totl ts then .many (totl ts) else .good m ts := by
      exact if_pos (by omega)
    cases el : itD dl with
    | none =>
      have e1 : isSeqD dl = false := by cases dl <;> first | rfl | exact nomatch el
      rw [el] at hv0
      have hv0 : verd (.int m) dl = .load 0 := hv0
      simp [Wp_isSeq hl, e1, g__law_fault_2]
      rw [hv0]
      exact ⟨Ex0.refl _, Dt.pair (.int 0)⟩
    | some ds =>
      have e1 : isSeqD dl = true := by cases dl <;> first | rfl | exact nomatch el
      rw [el] at hv0
      have hv : verd (.int m) dl = match goR m ds 0 [] with
          | .inl k => .load k
          | .inr ts => if 400 < totl ts then .many (totl ts) else .good m ts := hv0
      obtain ⟨us, hs, hus⟩ := hl.seq el
      have hlen := hb ds el
      simp [Wp_isSeq hl, e1]
      refine Ws_rng1 (j := ds.length) (G1 := G) (fun i e G' => Ex0 G G' ∧ ∃ acc, (∃ x4, e = [some (.int m), some ul, some (.tup [.int (lastP acc).1, .int (lastP acc).2]), some (.int (totl acc)), x4]) ∧ goR m ds 0 [] = goR m (ds.drop i) i acc) (eq_of_wpL (by simp [Wp_len hl el])) (by omega) (by omega) ⟨Ex0.refl _, [], ⟨none, rfl⟩, rfl⟩ ?_ ?_
      · rintro i hi e G' ⟨x1, acc, ⟨x4, rfl⟩, hgo⟩
        have hi : i < ds.length := by simpa using hi
        have hdr : ds.drop i = ds[i] :: ds.drop (i + 1) := List.drop_eq_getElem_cons hi
        have hl' := hl.mono x1.ext
        obtain ⟨us', hs', hus'⟩ := hl'.seq el
        obtain ⟨x, hx, hD⟩ := hus'.get (List.getElem?_eq_getElem hi)
        have ga : atI us' (i : Int) = some x := atI_pos (by omega) (by simpa using hx)
        rw [hdr] at hgo
        unfold g__law_fault_4
        simp [Wp_idxS hs', ga]
        refine (law_triple_spec hD m).nox ?_
        rintro r G2 ⟨x2, rfl⟩
        have hl2 := hl'.mono x2.ext
        obtain ⟨us2, hs2, hus2⟩ := hl2.seq el
        obtain ⟨y, hy, hD2⟩ := hus2.get (List.getElem?_eq_getElem hi)
        have ga2 : atI us2 (i : Int) = some y := atI_pos (by omega) (by simpa using hy)
        have bad : goR m ds 0 [] = .inl i → Ex0 G G2 ∧ D2 G2 (.tup [.str "load", .int (i : Int)]) (faultD (.int m) (verd (.int m) dl)) := by
          intro hq
          rw [hv, hq]
          exact ⟨x1.trans x2, Dt.pair (.int _)⟩
        cases ht : tripD m ds[i] with
        | none =>
          rw [goR_none ht] at hgo
          simp [g__law_fault_3]
          exact bad hgo
        | some t =>
          rw [goR_some ht] at hgo
          obtain ⟨hq, t1, t2, t3, t4, t5, t6, t7⟩ := trip_seq ht
          have hu2 := hD2.ints hq
          simp [Wp_idxS hs2, ga2, Wp_idxS hu2, lastP_le t1]
          cases c : lastLe acc t with
          | true =>
            rw [if_pos c] at hgo
            simp [g__law_fault_3]
            exact bad hgo
          | false =>
            rw [if_neg (by simp [c])] at hgo
            simp [Wp_idxS hs2, ga2, Wp_idxS hu2]
            refine ⟨x1.trans x2, acc ++ [t], ?_, hgo⟩
            rw [lastP_app, totl_app]
            simp
      · rintro e G' ⟨x1, acc, ⟨x4, rfl⟩, hgo⟩
        rw [Int.toNat_natCast, List.drop_length, goR_nil] at hgo
        rw [hgo] at hv
        have hv : verd (.int m) dl = if 400 < totl acc then .many (totl acc) else .good m acc := hv
        by_cases c : 400 < totl acc
        · rw [if_pos c] at hv
          simp [c, g__law_fault_5]
          rw [hv]
          exact ⟨x1, Dt.pair (.int _)⟩
        · rw [if_neg c] at hv
          simp [c]
          rw [hv]
          exact ⟨x1, .non⟩
end K06

set_option Elab.async false
set_option linter.all false
set_option maxRecDepth 100000
set_option maxHeartbeats 4000000
set_option autoImplicit false
namespace K06
open PySem PySem.Spec L2 FL
theorem told_ok {w um ul uu x : U} {G G1 : Gp} (h : F__law_call [w, um, ul, uu] G = .ok x G1) : F__law_told [w, um, ul, uu] G = .ok (.tup [.str "told", x]) G1 := by
  rw [run__law_told]
  unfold g__law_told sTry
  simp [g__law_told_5, h]
theorem told_number {w um ul uu x : U} {G G1 : Gp} (h : F__law_call [w, um, ul, uu] G = .exc "InvalidNumber" [("number", x)] G1) : F__law_told [w, um, ul, uu] G = .ok (.tup [.str "number", x]) G1 := by
  rw [run__law_told]
  unfold g__law_told sTry
  simp [g__law_told_5, h]
  rfl
theorem told_load {w um ul uu x : U} {G G1 : Gp} (h : F__law_call [w, um, ul, uu] G = .exc "InvalidLoad" [("place", x)] G1) : F__law_told [w, um, ul, uu] G = .ok (.tup [.str "load", x]) G1 := by
  rw [run__law_told]
  unfold g__law_told sTry
  simp [g__law_told_5, h]
  rfl
theorem told_many {w um ul uu x : U} {G G1 : Gp} (h : F__law_call [w, um, ul, uu] G = .exc "TooMany" [("many", x)] G1) : F__law_told [w, um, ul, uu] G = .ok (.tup [.str "many", x]) G1 := by
  rw [run__law_told]
  unfold g__law_told sTry
  simp [g__law_told_5, h]
  rfl
theorem told_machine {w um ul uu x : U} {G G1 : Gp} (h : F__law_call [w, um, ul, uu] G = .exc "NoMachine" [("machine", x)] G1) : F__law_told [w, um, ul, uu] G = .ok (.tup [.str "machine", x]) G1 := by
  rw [run__law_told]
  unfold g__law_told sTry
  simp [g__law_told_5, h]
  rfl
theorem Dt.tup3 {b : Nat} {G : Gp} {u v w : U} {x y z : PyData} (h1 : Dt b G u x) (h2 : Dt b G v y) (h3 : Dt b G w z) : Dt b G (.tup [u, v, w]) (.tuple [x, y, z]) := .tup (.cons h1 (.cons h2 (.cons h3 .nil)))
theorem busy_dt {b : Nat} (G : Gp) (x : Int × Bool × Nat) : Dt b G (busyU x) (busyD x) := Dt.tup3 (.int _) (.str _) (.int _)
/-- what the machine's sums tell -/
def machD (f : Tri → Int) (m : Int) (ts : List Tri) (du : PyData) : PyData := match du with
  | .int i => if 0 ≤ i ∧ i < m then .tuple [.str ("told" : Str), .int (sm f ts i)] else .tuple [.str ("machine" : Str), .int i]
  | d => .tuple [.str ("machine" : Str), d]
theorem machD_in {f : Tri → Int} {m : Int} {ts : List Tri} {i : Int} (h1 : 0 ≤ i) (h2 : i < m) : machD f m ts (.int i) = .tuple [.str ("told" : Str), .int (sm f ts i)] := if_pos ⟨h1, h2⟩
theorem machD_out {f : Tri → Int} {m : Int} {ts : List Tri} {du : PyData} (h : inRd du 0 (m - 1) = false) : machD f m ts du = .tuple [.str ("machine" : Str), du] := by
  cases du with
  | int i =>
    refine if_neg ?_
    simp [inRd] at h
    omega
  | _ => rfl
inductive Wd where | busiest | said | got
def Wd.s : Wd → Str
  | .busiest => "busiest"
  | .said => "said"
  | .got => "got"
def toldD (w : Wd) (dm dl du : PyData) : PyData := match verd dm dl with
  | .good m ts => match w with
    | .busiest => .tuple [.str ("told" : Str), busyD (best m ts)]
    | .said => machD fS m ts du
    | .got => machD fT m ts du
  | v => faultD dm v
theorem ne1 : ¬ (("said" : Str) = ("busiest" : Str)) := by decide
theorem ne2 : ¬ (("got" : Str) = ("busiest" : Str)) := by decide
theorem ne3 : ¬ (("got" : Str) = ("said" : Str)) := by decide
theorem call_b (um ul uu : U) (G : Gp) : F__law_call [.str "busiest", um, ul, uu] G = F_busiest [um, ul] G := by
  rw [run__law_call]
  simp [g__law_call, g__law_call_1]
  cases F_busiest [um, ul] G <;> rfl
theorem call_s (um ul uu : U) (G : Gp) : F__law_call [.str "said", um, ul, uu] G = F_said_of [um, ul, uu] G := by
  rw [run__law_call]
  simp [g__law_call, g__law_call_1, g__law_call_2, ne1]
  cases F_said_of [um, ul, uu] G <;> rfl
theorem call_g (um ul uu : U) (G : Gp) : F__law_call [.str "got", um, ul, uu] G = F_got_of [um, ul, uu] G := by
  rw [run__law_call]
  simp [g__law_call, g__law_call_1, g__law_call_2, ne2, ne3]
  cases F_got_of [um, ul, uu] G <;> rfl
theorem told_exc {w um ul uu : U} {G G1 : Gp} {dm dl : PyData} {c : Str} {fs : List (Str × U)} (hm : D2 G um dm) (x : Ex0 G G1) (h : F__law_call [w, um, ul, uu] G = .exc c fs G1) (he : excOf (verd dm dl) um = some (c, fs)) : ∃ u, F__law_told [w, um, ul, uu] G = .ok u G1 ∧ D2 G1 u (faultD dm (verd dm dl)) := by
  cases hv : verd dm dl with
  | number =>
    rw [hv] at he
    cases he
    exact ⟨_, told_number h, Dt.pair (hm.mono x.ext)⟩
  | load k =>
    rw [hv] at he
    cases he
    exact ⟨_, told_load h, Dt.pair (.int _)⟩
  | many k =>
    rw [hv] at he
    cases he
    exact ⟨_, told_many h, Dt.pair (.int _)⟩
  | good m ts => rw [hv] at he; exact nomatch he
theorem toldD_exc {w : Wd} {dm dl du : PyData} {um : U} {c : Str} {fs : List (Str × U)} (he : excOf (verd dm dl) um = some (c, fs)) : toldD w dm dl du = faultD dm (verd dm dl) := by
  unfold toldD
  cases hv : verd dm dl with
  | good m ts => rw [hv] at he; exact nomatch he
  | _ => rfl
theorem toldD_bad {w : Wd} {dm dl du : PyData} (he : ∀ m ts, verd dm dl ≠ .good m ts) : toldD w dm dl du = faultD dm (verd dm dl) := by
  unfold toldD
  cases hv : verd dm dl with
  | good m ts => exact absurd hv (he m ts)
  | _ => rfl
theorem told_spec (w : Wd) {G : Gp} {um ul uu : U} {dm dl du : PyData} (hm : D2 G um dm) (hl : D2 G ul dl) (hu : D2 G uu du) (h2 : 2 < G.length) (hb : ∀ ds, itD dl = some ds → ds.length < 16777216) : Wp (F__law_told [.str w.s, um, ul, uu] G) (fun u G' => Ex0 G G' ∧ D2 G' u (toldD w dm dl du)) noX := by
  have fin : ∀ u G1, Ex0 G G1 → F__law_told [.str w.s, um, ul, uu] G = .ok u G1 → D2 G1 u (toldD w dm dl du) → Wp (F__law_told [.str w.s, um, ul, uu] G) (fun u G' => Ex0 G G' ∧ D2 G' u (toldD w dm dl du)) noX := fun u G1 x h d => Wp_of h ⟨x, d⟩
  cases w with
  | busiest =>
    have cb := call_b um ul uu G
    have h := busiest_spec hm hl h2 hb
    cases e : F_busiest [um, ul] G with
    | ok u G1 =>
      rw [e] at h cb
      obtain ⟨x, m, ts, hv, rfl⟩ := h
      refine fin _ _ x (told_ok cb) ?_
      unfold toldD
      rw [hv]
      exact Dt.pair (busy_dt _ _)
    | exc c fs G1 =>
      rw [e] at h cb
      obtain ⟨x, he⟩ := h
      obtain ⟨u, h1, h2⟩ := told_exc hm x cb he
      exact fin u G1 x h1 (by rw [toldD_exc he]; exact h2)
    | bad => rw [e] at h; exact h.elim
  | said =>
    have cb := call_s um ul uu G
    have h := said_of_spec hm hl hu h2 hb
    cases e : F_said_of [um, ul, uu] G with
    | ok u G1 =>
      rw [e] at h cb
      obtain ⟨x, m, ts, i, hv, rfl, i1, i2, rfl⟩ := h
      refine fin _ _ x (told_ok cb) ?_
      unfold toldD
      rw [hv]
      simp only [machD_in i1 i2]
      exact Dt.pair (.int _)
    | exc c fs G1 =>
      rw [e] at h cb
      obtain ⟨x, he | ⟨m, ts, hv, hi, rfl, rfl⟩⟩ := h
      · obtain ⟨u, h1, h2⟩ := told_exc hm x cb he
        exact fin u G1 x h1 (by rw [toldD_exc he]; exact h2)
      · refine fin _ _ x (told_machine cb) ?_
        unfold toldD
        rw [hv]
        simp only [machD_out hi]
        exact Dt.pair (hu.mono x.ext)
    | bad => rw [e] at h; exact h.elim
  | got =>
    have cb := call_g um ul uu G
    have h := got_of_spec hm hl hu h2 hb
    cases e : F_got_of [um, ul, uu] G with
    | ok u G1 =>
      rw [e] at h cb
      obtain ⟨x, m, ts, i, hv, rfl, i1, i2, rfl⟩ := h
      refine fin _ _ x (told_ok cb) ?_
      unfold toldD
      rw [hv]
      simp only [machD_in i1 i2]
      exact Dt.pair (.int _)
    | exc c fs G1 =>
      rw [e] at h cb
      obtain ⟨x, he | ⟨m, ts, hv, hi, rfl, rfl⟩⟩ := h
      · obtain ⟨u, h1, h2⟩ := told_exc hm x cb he
        exact fin u G1 x h1 (by rw [toldD_exc he]; exact h2)
      · refine fin _ _ x (told_machine cb) ?_
        unfold toldD
        rw [hv]
        simp only [machD_out hi]
        exact Dt.pair (hu.mono x.ext)
    | bad => rw [e] at h; exact h.elim
/-- told, and what is due, are the same -/
theorem all_spec {G : Gp} {um ul uu ud : U} {dm dl du : PyData} (hm : D2 G um dm) (hl : D2 G ul dl) (hu : D2 G uu du) (h2 : 2 < G.length) (hb : ∀ ds, itD dl = some ds → ds.length < 16777216) {dd : PyData} (hd : D2 G ud dd) (he : ∀ w, toldD w dm dl du = dd) (hdep : dep dd < 40) : Wp (F__law_all [um, ul, uu, ud] G) (fun u G' => Ex0 G G' ∧ u = .bl true) noX := by
  rw [run__law_all, Wp_fin]
  unfold g__law_all
  simp
  refine Ws_tup (xs := [.str "busiest", .str "said", .str "got"]) (G1 := G) (fun i e G' => Ex0 G G' ∧ ∃ x, e = [some um, some ul, some uu, some ud, x]) (eq_of_wp (by simp)) ⟨Ex0.refl _, none, rfl⟩ ?_ ?_
  · rintro i hi e G' ⟨x, x4, rfl⟩
    obtain ⟨w, hw⟩ : ∃ w : Wd, ([.str "busiest", .str "said", .str "got"] : List U)[i] = .str w.s := by
      match i, hi with
      | 0, _ => exact ⟨.busiest, rfl⟩
      | 1, _ => exact ⟨.said, rfl⟩
      | 2, _ => exact ⟨.got, rfl⟩
    rw [hw]
    simp
    unfold g__law_all_1
    simp
    refine (told_spec w (hm.mono x.ext) (hl.mono x.ext) (hu.mono x.ext) (Nat.lt_of_lt_of_le h2 x.1) hb).nox ?_
    rintro u G1 ⟨x1, d1⟩
    rw [he w] at d1
    simp
    refine (same_true 40 dd u ud G1 hdep (by decide) d1 (hd.mono (x.trans x1).ext)).nox ?_
    rintro u G2 ⟨rfl, x2⟩
    simp
    exact (x.trans x1).trans x2
  · rintro e G' ⟨x, x4, rfl⟩
    simp
    exact x
end K06

set_option Elab.async false
set_option linter.all false
set_option maxRecDepth 100000
set_option maxHeartbeats 4000000
set_option autoImplicit false
namespace K06
open PySem PySem.Spec L2 FL
theorem goR_map {m : Int} : ∀ {ds : List PyData} {k : Nat} {acc ts : List Tri}, goR m ds k acc = .inr ts → acc.map some ++ ds.map (tripD m) = ts.map some
  | [], k, acc, ts, h => by rw [goR_nil] at h; cases h; simp
  | d :: ds, k, acc, ts, h => by
    cases e : tripD m d with
    | none => rw [goR_none e] at h; exact nomatch h
    | some t =>
      rw [goR_some e] at h
      split at h
      · exact nomatch h
      · have := goR_map h
        simp at this ⊢
        rw [e]
        exact this
/-- a load that has been checked: its items are the triples -/
def Ld (G : Gp) (ul : U) (m : Int) (ts : List Tri) : Prop := ∃ dl ds, D2 G ul dl ∧ itD dl = some ds ∧ ds.map (tripD m) = ts.map some
theorem Ld.mono {G G' : Gp} {ul : U} {m : Int} {ts : List Tri} (h : Ld G ul m ts) (x : Ex0 G G') : Ld G' ul m ts := by
  obtain ⟨dl, ds, h1, h2, h3⟩ := h
  exact ⟨dl, ds, h1.mono x.ext, h2, h3⟩
theorem ld_of {G : Gp} {ul : U} {dm dl : PyData} {m : Int} {ts : List Tri} (hl : D2 G ul dl) (hv : verd dm dl = .good m ts) : Ld G ul m ts := by
  obtain ⟨-, -, -, -, -, ds, e, g⟩ := verd_good hv
  exact ⟨dl, ds, hl, e, by simpa using goR_map g⟩
theorem sum_comp {env : Ev} {G : Gp} {ul : U} {m : Int} {ts : List Tri} {c w : Nat} {i fi : Int} {f : Tri → Int} {P : PUt} {E : XP} (hL : Ld G ul m ts) (hlen : ts.length < 16777216) (h1 : env[1]? = some (some ul)) (hw : env[w]? = some (some (.int i))) (hc : c < env.length) (hne : w ≠ c) (hf : ∀ t : Tri, atI [U.int t.1, .int t.2.1, .int t.2.2] fi = some (.int (f t)))
    (k : ∀ G', Ex0 G G' → P (.int (sm f ts i)) G') : Wp (eComp [c] (iOf (eVar 1) kSeq) (gNm c) (bVal (eBin gEq (eBin gIdx (eVar c) (eC (.int fi))) (eVar w))) (eBin gIdx (eVar c) (eC (.int 2))) env G) (fun u G' => Wp (bSum [u] G') P E) E := by
  obtain ⟨dl, ds, hl, e, hts⟩ := hL
  obtain ⟨us, hs, h2⟩ := hl.seq e
  have hlt : ds.length = ts.length := by simpa using congrArg List.length hts
  refine Wp_compP (as := ts) (us := us) (G1 := G) (fun t => decide (f t = i)) (fun t => .int t.2.2) (eq_of_wp (by rw [Wp_eVar 1 h1]; exact ⟨rfl, rfl⟩)) hs hl.nwt (by rw [h2.len]; exact hlt) hlen (fun j t x ht hx G2 x2 => ?_) (fun G2 x2 hg => ?_)
  · have hj : j < ds.length := by rw [hlt]; exact (List.getElem?_eq_some_iff.mp ht).1
    have hd : tripD m ds[j] = some t := by
      have := congrArg (fun l => l[j]?) hts
      simp [ht, List.getElem?_eq_getElem hj] at this
      exact this
    obtain ⟨v, hv1, hv2⟩ := (h2.mono x2.ext).get (List.getElem?_eq_getElem hj)
    rw [hx] at hv1
    cases hv1
    have hi := hv2.ints (trip_seq hd).1
    have e1 : ((wipeE env [c]).set c (some x))[c]? = some (some x) := by
      rw [List.getElem?_set_self (by simpa [wipeE] using hc)]
    have e2 : ((wipeE env [c]).set c (some x))[w]? = some (some (.int i)) := by
      rw [List.getElem?_set_ne (Ne.symm hne)]
      simp [wipeE, List.getElem?_set_ne (Ne.symm hne), hw]
    have hf' : atI (List.map U.int [t.1, t.2.1, t.2.2]) fi = some (.int (f t)) := hf t
    rw [show gNm c x (wipeE env [c]) G2 = .ok ((wipeE env [c]).set c (some x)) G2 from rfl]
    generalize (wipeE env [c]).set c (some x) = ev at e1 e2
    show KP1 _ _ _ _ _ ev G2
    have f1 := fun P E => (Wp_eVar (P := P) (E := E) (G := G2) c e1)
    have f2 := fun P E => (Wp_eVar (P := P) (E := E) (G := G2) w e2)
    simp [↓ f1, ↓ f2, Wp_idxS hi, hf t]
  · have hg' : G2[G.length]? = some (.lst (((ts.filter fun t => decide (f t = i)).map (·.2.2)).map .int)) := by rw [hg]; simp [Function.comp_def]
    rw [Wp_sumR hg']
    exact k G2 x2
theorem bestN_succ (S T : Nat → Int) (n : Nat) : bestN S T (n + 1) = if (if (bestN S T n).1 < S n then (S n, false, n) else bestN S T n).1 < T n then (T n, true, n) else if (bestN S T n).1 < S n then (S n, false, n) else bestN S T n := rfl
theorem law_busy_spec {G : Gp} {ul : U} {m : Int} {ts : List Tri} (hL : Ld G ul m ts) (hlen : ts.length < 16777216) (h1 : 2 ≤ m) (h2 : m ≤ 12) : Wp (F__law_busy [.int m, ul] G) (fun u G' => Ex0 G G' ∧ u = busyU (best m ts)) noX := by
  rw [run__law_busy, Wp_fin]
  unfold g__law_busy
  simp
  refine Ws_rng1 (j := m) (G1 := G) (fun i e G' => Ex0 G G' ∧ ∃ x3 x4 x5, e = [some (.int m), some ul, some (busyU (bestN (fun i => sm fS ts i) (fun i => sm fT ts i) i)), x3, x4, x5, none]) (eq_of_wpL (by simp)) (by omega) (by omega) ⟨Ex0.refl _, none, none, none, rfl⟩ ?_ ?_
  · rintro i hi e G' ⟨x, x3, x4, x5, rfl⟩
    unfold g__law_busy_3
    simp
    refine sum_comp (f := fS) (i := (i : Int)) (hL.mono x) hlen (by simp) (by simp) (by simp) (by decide) (fun t => by simp) fun G2 x2 => ?_
    simp
    refine sum_comp (f := fT) (i := (i : Int)) ((hL.mono x).mono x2) hlen (by simp) (by simp) (by simp) (by decide) (fun t => by simp) fun G3 x3' => ?_
    have bn := bestN_succ (fun i => sm fS ts i) (fun i => sm fT ts i) i
    have xx := (x.trans x2).trans x3'
    generalize bestN (fun i => sm fS ts i) (fun i => sm fT ts i) i = b at bn
    simp [busyU]
    by_cases c : b.1 < sm fS ts i
    · rw [if_pos c] at bn
      simp [c, g__law_busy_1, g__law_busy_2]
      by_cases c2 : sm fS ts i < sm fT ts i
      · rw [if_pos c2] at bn
        simp [c2, bn, busyU, xx]
      · rw [if_neg c2] at bn
        simp [c2, bn, busyU, xx]
    · rw [if_neg c] at bn
      simp [c, g__law_busy_1, g__law_busy_2]
      by_cases c2 : b.1 < sm fT ts i
      · rw [if_pos c2] at bn
        simp [c2, bn, busyU, xx]
      · rw [if_neg c2] at bn
        simp [c2, bn, busyU, xx]
  · rintro e G' ⟨x, x3, x4, x5, rfl⟩
    simp
    exact ⟨x, rfl⟩
theorem dep_t2 (w : Str) (d : PyData) (h : dep d < 30) : dep (.tuple [.str w, d]) < 40 := by
  have := dep_it (d := .tuple [.str w, d]) rfl
  rw [this]
  have := deps_le (k := 30) (ds := [.str w, d]) (fun x hx => by
    rcases List.mem_cons.mp hx with rfl | hx
    · unfold dep; omega
    · rw [List.mem_singleton.mp hx]; omega)
  simp
  omega
theorem dep_busy (b : Int × Bool × Nat) : dep (busyD b) < 30 := by
  have := dep_it (d := busyD b) rfl
  rw [this]
  have := deps_le (k := 0) (ds := [.int b.1, .str (if b.2.1 = true then ("gets" : Str) else ("says" : Str)), .int (b.2.2 : Nat)]) (fun x hx => by
    simp at hx
    rcases hx with rfl | rfl | rfl <;> unfold dep <;> omega)
  simp
  omega
theorem answers_spec {G : Gp} {ul : U} {dl : PyData} {m : Int} {ts : List Tri} (hl : D2 G ul dl) (hv : verd (.int m) dl = .good m ts) (hG : 2 < G.length) (hb : ∀ ds, itD dl = some ds → ds.length < 16777216) : Wp (F__law_answers [.int m, ul] G) (fun u G' => Ex0 G G' ∧ u = .bl true) noX := by
  obtain ⟨-, m1, m2, ok, -, ds, e, g⟩ := verd_good hv
  have hlen : ts.length < 16777216 := by have := goR_len g; have := hb ds e; simp at *; omega
  rw [run__law_answers, Wp_fin]
  unfold g__law_answers
  simp
  refine Ws_rng1 (j := m) (G1 := G) (fun i e G' => Ex0 G G' ∧ ∃ x2 x3 x4, e = [some (.int m), some ul, x2, x3, x4, none]) (eq_of_wpL (by simp)) (by omega) (by omega) ⟨Ex0.refl _, none, none, none, rfl⟩ ?_ ?_
  · rintro i hi e G' ⟨x, x2, x3, x4, rfl⟩
    have hL := ld_of hl hv
    unfold g__law_answers_1
    simp
    refine sum_comp (f := fS) (i := (i : Int)) (hL.mono x) hlen (by simp) (by simp) (by simp) (by decide) (fun t => by simp) fun G2 x2 => ?_
    simp
    refine sum_comp (f := fT) (i := (i : Int)) ((hL.mono x).mono x2) hlen (by simp) (by simp) (by simp) (by decide) (fun t => by simp) fun G3 x3' => ?_
    have xx := (x.trans x2).trans x3'
    have i0 : (0 : Int) ≤ (i : Int) := by omega
    have i1 : (i : Int) < m := by omega
    simp
    refine (told_spec .said (.int m) (hl.mono xx.ext) (.int (i : Int)) (Nat.lt_of_lt_of_le hG xx.1) hb).nox ?_
    rintro u G4 ⟨x4', d4⟩
    have e4 : toldD .said (.int m) dl (.int (i : Int)) = .tuple [.str ("told" : Str), .int (sm fS ts i)] := by
      unfold toldD; rw [hv]; exact machD_in i0 i1
    rw [e4] at d4
    simp
    refine (same_true 40 _ u _ G4 (dep_t2 _ _ (by unfold dep; omega)) (by decide) d4 (Dt.pair (.int _))).nox ?_
    rintro u G5 ⟨rfl, x5⟩
    have xx5 := (xx.trans x4').trans x5
    simp
    refine (told_spec .got (.int m) (hl.mono xx5.ext) (.int (i : Int)) (Nat.lt_of_lt_of_le hG xx5.1) hb).nox ?_
    rintro u G6 ⟨x6, d6⟩
    have e6 : toldD .got (.int m) dl (.int (i : Int)) = .tuple [.str ("told" : Str), .int (sm fT ts i)] := by
      unfold toldD; rw [hv]; exact machD_in i0 i1
    rw [e6] at d6
    simp
    refine (same_true 40 _ u _ G6 (dep_t2 _ _ (by unfold dep; omega)) (by decide) d6 (Dt.pair (.int _))).nox ?_
    rintro u G7 ⟨rfl, x7⟩
    simp
    exact (xx5.trans x6).trans x7
  · rintro e' G' ⟨x, x2, x3, x4, rfl⟩
    simp
    refine (told_spec .busiest (.int m) (hl.mono x.ext) (.int 0) (Nat.lt_of_lt_of_le hG x.1) hb).nox ?_
    rintro u G1 ⟨x1, d1⟩
    have e1 : toldD .busiest (.int m) dl (.int 0) = .tuple [.str ("told" : Str), busyD (best m ts)] := by
      unfold toldD; rw [hv]
    rw [e1] at d1
    simp
    refine (law_busy_spec ((ld_of hl hv).mono (x.trans x1)) hlen m1 m2).nox ?_
    rintro v G2 ⟨x2', rfl⟩
    simp
    refine (same_true 40 _ u _ G2 (dep_t2 _ _ (dep_busy _)) (by decide) (d1.mono x2'.ext) (Dt.pair (busy_dt _ _))).nox ?_
    rintro u G3 ⟨rfl, x3'⟩
    simp
    exact ((x.trans x1).trans x2').trans x3'
end K06

set_option Elab.async false
set_option linter.all false
set_option maxRecDepth 100000
set_option maxHeartbeats 4000000
set_option autoImplicit false
namespace K06
open PySem PySem.Spec L2 FL
theorem sc_busy {G : Gp} {ul : U} {dl : PyData} {m : Int} {ts : List Tri} {b : Int × Bool × Nat} (hl : D2 G ul dl) (hv : verd (.int m) dl = .good m ts) (hbst : best m ts = b) (hG : 2 < G.length) (hb : ∀ ds, itD dl = some ds → ds.length < 16777216) : Wp (F_busiest [.int m, ul] G) (fun u G1 => Ex0 G G1 ∧ u = busyU b) noX := by
  refine (busiest_spec (.int m) hl hG hb).mono ?_ ?_
  · rintro u G1 ⟨x, m', ts', h1, rfl⟩
    rw [hv] at h1
    cases h1
    rw [hbst]
    exact ⟨x, rfl⟩
  · rintro c fs G1 ⟨x, he⟩
    rw [hv] at he
    exact nomatch he
theorem lenB {dl : PyData} {xs : List PyData} (h : itD dl = some xs) (hx : xs.length < 16777216) : ∀ ds, itD dl = some ds → ds.length < 16777216 := fun ds e => by
  rw [h] at e
  cases e
  exact hx
theorem scene_spec {G : Gp} (hG : 2 < G.length) : Wp (F__law_scene [] G) (fun u G' => u = .bl true) noX := by
  rw [run__law_scene, Wp_fin]
  unfold g__law_scene
  simp
  refine (sc_busy (G := G) (dl := .tuple []) (m := 2) (ts := []) (b := (0, false, 0)) (.tup (.nil)) rfl (by decide +kernel) hG (lenB rfl (by decide))).nox ?_
  rintro u A1 ⟨x1, rfl⟩
  have h1 : 2 < A1.length := Nat.lt_of_lt_of_le hG x1.1
  simp
  refine (same_true 40 (busyD (0, false, 0)) (busyU (0, false, 0)) _ A1 (Nat.lt_trans (dep_busy _) (by decide)) (by decide) (busy_dt _ _) (busy_dt _ (0, false, 0))).nox ?_
  rintro u B1 ⟨rfl, y1⟩
  have k1 : 2 < B1.length := Nat.lt_of_lt_of_le h1 y1.1
  simp
  refine (sc_busy (G := B1 ++ [.lst [.tup [.int 1, .int 0, .int 3]]]) (ul := .ref B1.length) (dl := .list [.tuple [.int 1, .int 0, .int 3]]) (m := 12) (ts := [(1, 0, 3)]) (b := (3, true, 0)) (Dt.new (.cons (.tup (.cons (.int (1)) (.cons (.int (0)) (.cons (.int (3)) .nil)))) .nil) k1) rfl (by decide +kernel) (by simp; omega) (lenB rfl (by decide))).nox ?_
  rintro u A2 ⟨x2, rfl⟩
  have h2 : 2 < A2.length := by have := x2.1; simp at this; omega
  simp
  refine (same_true 40 (busyD (3, true, 0)) (busyU (3, true, 0)) _ A2 (Nat.lt_trans (dep_busy _) (by decide)) (by decide) (busy_dt _ _) (busy_dt _ (3, true, 0))).nox ?_
  rintro u B2 ⟨rfl, y2⟩
  have k2 : 2 < B2.length := Nat.lt_of_lt_of_le h2 y2.1
  simp
  refine (sc_busy (G := B2) (dl := .tuple [.tuple [.int 0, .int 1, .int 200], .tuple [.int 0, .int 2, .int 200]]) (m := 3) (ts := [(0, 1, 200), (0, 2, 200)]) (b := (400, false, 0)) (.tup (.cons (.tup (.cons (.int (0)) (.cons (.int (1)) (.cons (.int (200)) .nil)))) (.cons (.tup (.cons (.int (0)) (.cons (.int (2)) (.cons (.int (200)) .nil)))) .nil))) rfl (by decide +kernel) k2 (lenB rfl (by decide))).nox ?_
  rintro u A3 ⟨x3, rfl⟩
  have h3 : 2 < A3.length := Nat.lt_of_lt_of_le k2 x3.1
  simp
  refine (same_true 40 (busyD (400, false, 0)) (busyU (400, false, 0)) _ A3 (Nat.lt_trans (dep_busy _) (by decide)) (by decide) (busy_dt _ _) (busy_dt _ (400, false, 0))).nox ?_
  rintro u B3 ⟨rfl, y3⟩
  have k3 : 2 < B3.length := Nat.lt_of_lt_of_le h3 y3.1
  simp
  refine (sc_busy (G := B3) (dl := .tuple [.tuple [.int 0, .int 3, .int 2], .tuple [.int 1, .int 3, .int 2], .tuple [.int 2, .int 0, .int 4]]) (m := 4) (ts := [(0, 3, 2), (1, 3, 2), (2, 0, 4)]) (b := (4, true, 0)) (.tup (.cons (.tup (.cons (.int (0)) (.cons (.int (3)) (.cons (.int (2)) .nil)))) (.cons (.tup (.cons (.int (1)) (.cons (.int (3)) (.cons (.int (2)) .nil)))) (.cons (.tup (.cons (.int (2)) (.cons (.int (0)) (.cons (.int (4)) .nil)))) .nil)))) rfl (by decide +kernel) k3 (lenB rfl (by decide))).nox ?_
  rintro u A4 ⟨x4, rfl⟩
  have h4 : 2 < A4.length := Nat.lt_of_lt_of_le k3 x4.1
  simp
  refine (same_true 40 (busyD (4, true, 0)) (busyU (4, true, 0)) _ A4 (Nat.lt_trans (dep_busy _) (by decide)) (by decide) (busy_dt _ _) (busy_dt _ (4, true, 0))).nox ?_
  rintro u B4 ⟨rfl, y4⟩
  have k4 : 2 < B4.length := Nat.lt_of_lt_of_le h4 y4.1
  simp
  refine (sc_busy (G := B4) (dl := .tuple [.tuple [.int 0, .int 3, .int 3], .tuple [.int 1, .int 3, .int 2], .tuple [.int 2, .int 1, .int 5]]) (m := 4) (ts := [(0, 3, 3), (1, 3, 2), (2, 1, 5)]) (b := (5, true, 1)) (.tup (.cons (.tup (.cons (.int (0)) (.cons (.int (3)) (.cons (.int (3)) .nil)))) (.cons (.tup (.cons (.int (1)) (.cons (.int (3)) (.cons (.int (2)) .nil)))) (.cons (.tup (.cons (.int (2)) (.cons (.int (1)) (.cons (.int (5)) .nil)))) .nil)))) rfl (by decide +kernel) k4 (lenB rfl (by decide))).nox ?_
  rintro u A5 ⟨x5, rfl⟩
  have h5 : 2 < A5.length := Nat.lt_of_lt_of_le k4 x5.1
  simp
  refine (same_true 40 (busyD (5, true, 1)) (busyU (5, true, 1)) _ A5 (Nat.lt_trans (dep_busy _) (by decide)) (by decide) (busy_dt _ _) (busy_dt _ (5, true, 1))).nox ?_
  rintro u B5 ⟨rfl, y5⟩
  have k5 : 2 < B5.length := Nat.lt_of_lt_of_le h5 y5.1
  simp
  refine (all_spec (G := B5) (dm := .int 3) (dl := .tuple [.tuple [.int 0, .int 1, .int 200], .tuple [.int 0, .int 2, .int 200], .tuple [.int 1, .int 2, .int 1]]) (du := .int 5) (dd := .tuple [.str ("many" : Str), .int 401]) (.int _) (.tup (.cons (.tup (.cons (.int (0)) (.cons (.int (1)) (.cons (.int (200)) .nil)))) (.cons (.tup (.cons (.int (0)) (.cons (.int (2)) (.cons (.int (200)) .nil)))) (.cons (.tup (.cons (.int (1)) (.cons (.int (2)) (.cons (.int (1)) .nil)))) .nil)))) (.int _) k5 (lenB rfl (by decide)) (.tup (.cons (.str _) (.cons (.int 401) .nil))) (fun w => (toldD_bad (fun a b h => by have hv : verd (.int 3) (.tuple [.tuple [.int 0, .int 1, .int 200], .tuple [.int 0, .int 2, .int 200], .tuple [.int 1, .int 2, .int 1]]) = .many 401 := rfl; rw [hv] at h; exact nomatch h)).trans rfl) (by decide +kernel)).nox ?_
  rintro u B6 ⟨z6, rfl⟩
  have k6 : 2 < B6.length := Nat.lt_of_lt_of_le k5 z6.1
  simp
  refine (all_spec (G := B6) (dm := .int 3) (dl := .tuple [.tuple [.int 0, .int 1, .int 200], .tuple [.int 0, .int 2, .int 200], .tuple [.int 1, .int 2, .int 201]]) (du := .int 5) (dd := .tuple [.str ("load" : Str), .int 2]) (.int _) (.tup (.cons (.tup (.cons (.int (0)) (.cons (.int (1)) (.cons (.int (200)) .nil)))) (.cons (.tup (.cons (.int (0)) (.cons (.int (2)) (.cons (.int (200)) .nil)))) (.cons (.tup (.cons (.int (1)) (.cons (.int (2)) (.cons (.int (201)) .nil)))) .nil)))) (.int _) k6 (lenB rfl (by decide)) (.tup (.cons (.str _) (.cons (.int 2) .nil))) (fun w => (toldD_bad (fun a b h => by have hv : verd (.int 3) (.tuple [.tuple [.int 0, .int 1, .int 200], .tuple [.int 0, .int 2, .int 200], .tuple [.int 1, .int 2, .int 201]]) = .load 2 := rfl; rw [hv] at h; exact nomatch h)).trans rfl) (by decide +kernel)).nox ?_
  rintro u B7 ⟨z7, rfl⟩
  have k7 : 2 < B7.length := Nat.lt_of_lt_of_le k6 z7.1
  simp
  refine (all_spec (G := B7) (dm := .int 13) (dl := .tuple [.tuple [.int 0, .int 0, .int 1]]) (du := .none) (dd := .tuple [.str ("number" : Str), .int 13]) (.int _) (.tup (.cons (.tup (.cons (.int (0)) (.cons (.int (0)) (.cons (.int (1)) .nil)))) .nil)) (.non) k7 (lenB rfl (by decide)) (.tup (.cons (.str _) (.cons (.int 13) .nil))) (fun w => (toldD_bad (fun a b h => by have hv : verd (.int 13) (.tuple [.tuple [.int 0, .int 0, .int 1]]) = .number := rfl; rw [hv] at h; exact nomatch h)).trans rfl) (by decide +kernel)).nox ?_
  rintro u B8 ⟨z8, rfl⟩
  have k8 : 2 < B8.length := Nat.lt_of_lt_of_le k7 z8.1
  simp
  have q0 : (B8 ++ [OU.lst [.int 1, .int 0, .int 1], OU.lst [.int 0, .int 1, .int 1], OU.lst [.ref B8.length, .ref (B8.length + 1)]])[B8.length]? = some (OU.lst [.int 1, .int 0, .int 1]) := by simp
  have q1 : (B8 ++ [OU.lst [.int 1, .int 0, .int 1], OU.lst [.int 0, .int 1, .int 1], OU.lst [.ref B8.length, .ref (B8.length + 1)]])[B8.length + 1]? = some (OU.lst [.int 0, .int 1, .int 1]) := by simp
  have q2 : (B8 ++ [OU.lst [.int 1, .int 0, .int 1], OU.lst [.int 0, .int 1, .int 1], OU.lst [.ref B8.length, .ref (B8.length + 1)]])[B8.length + 2]? = some (OU.lst [.ref B8.length, .ref (B8.length + 1)]) := by simp
  have hl : D2 _ (.ref (B8.length + 2)) (.list [.list [.int 1, .int 0, .int 1], .list [.int 0, .int 1, .int 1]]) := .lst (by omega) q2 (.cons (.lst (by omega) q0 (.cons (.int 1) (.cons (.int 0) (.cons (.int 1) .nil)))) (.cons (.lst (by omega) q1 (.cons (.int 0) (.cons (.int 1) (.cons (.int 1) .nil)))) .nil))
  refine (all_spec (dm := .int 2) (dl := (.list [.list [.int 1, .int 0, .int 1], .list [.int 0, .int 1, .int 1]])) (du := .int 0) (dd := .tuple [.str ("load" : Str), .int 1]) (.int _) hl (.int _) (by simp <;> omega) (lenB rfl (by decide)) (.tup (.cons (.str _) (.cons (.int 1) .nil))) (fun w => (toldD_bad (fun a b h => by have hv : verd (.int 2) ((.list [.list [.int 1, .int 0, .int 1], .list [.int 0, .int 1, .int 1]])) = .load 1 := rfl; rw [hv] at h; exact nomatch h)).trans rfl) (by decide +kernel)).nox ?_
  rintro u B9 ⟨z9, rfl⟩
  simp
end K06

set_option Elab.async false
set_option linter.all false
set_option maxRecDepth 100000
set_option maxHeartbeats 4000000
set_option autoImplicit false
namespace K06
open PySem PySem.Spec L2 FL
theorem Oth.ext {G G' : Gp} (h : Oth G G') : Ext 2 G G' := ⟨Nat.le_of_eq h.1.symm, fun l h1 _ => h.2 l h1⟩
theorem Dr.ex {G G' : Gp} (h : Dr G) (x : Ex0 G G') : Dr G' := by
  obtain ⟨a, st, c, gs, s0, s1, h2, h0⟩ := h
  exact ⟨a, st, c, gs, s0, s1, x.at_ h2, x.at_ h0⟩
theorem Dr.len {G : Gp} (h : Dr G) : 2 < G.length := by
  obtain ⟨a, st, c, gs, s0, s1, h2, h0⟩ := h
  exact lt_of_at h2
/-- a draw, told with Ext -/
theorem take_e {G : Gp} {m : Int} {P : U → Gp → Prop} {E : XP} (hD : Dr G) (hm : 0 < m) (hm2 : m < 1000000) (k : ∀ r G', 0 ≤ r → r < m → Ext 2 G G' → Dr G' → P (.int r) G') : Wp (F__law_take [.ref 2, .int m] G) P E :=
  take_spec hD hm hm2 fun r G' a b o d => k r G' a b o.ext d
theorem Wp_strI {G : Gp} {i : Int} {P : PUt} {E : XP} (h0 : 0 ≤ i) (h : i < 1000000) : Wp (bStr [.int i] G) P E ↔ P (.str (toString i : String)) G := by
  have : i.natAbs.log2 < 1920 := by
    by_cases c : i.natAbs = 0
    · rw [c]; decide
    · rw [Nat.log2_lt c]
      have : (2 : Nat) ^ 20 ≤ 2 ^ 1920 := Nat.pow_le_pow_right (by decide) (by decide)
      have e : (2 : Nat) ^ 20 = 1048576 := by decide
      omega
  rw [show bStr [.int i] G = .ok (.str (toString i : String)) G from if_pos this]
  exact ⟨id, id⟩
theorem Wp_insert {G : Gp} {l : Nat} {xs : List U} {i : Int} {y : U} {P : PUt} {E : XP} (h : G[l]? = some (.lst xs)) (h0 : 0 ≤ i) (h1 : i < 1000000) (hl : xs.length < 16777216) : Wp (mInsert (.ref l) [.int i, y] G) P E ↔ P .non (G.set l (.lst (xs.take i.toNat ++ [y] ++ xs.drop i.toNat))) := by
  have e63 : (2 : Int) ^ 63 = 9223372036854775808 := by decide
  rw [mInsert_ref h h0 (by rw [e63]; omega) hl]
  exact ⟨id, id⟩
/-- one of a tuple's items -/
theorem atI_case {α : Type} {xs : List α} {i : Int} (h0 : 0 ≤ i) (h1 : i < xs.length) : ∃ x, atI xs i = some x ∧ x ∈ xs := by
  have hi : i.toNat < xs.length := by omega
  exact ⟨xs[i.toNat], atI_pos h0 (List.getElem?_eq_getElem hi), List.getElem_mem hi⟩
theorem spoilt_spec {G : Gp} {m : Int} {P : PUt} {E : XP} (hD : Dr G) (m1 : 2 ≤ m) (m2 : m ≤ 12) (k : ∀ u d G', Ext 2 G G' → Dr G' → D2 G' u d → inRd d 0 (m - 1) = false → dep d ≤ 1 → P u G') : Wp (F__law_spoilt [.ref 2, .int m] G) P E := by
  rw [run__law_spoilt, Wp_fin]
  unfold g__law_spoilt
  simp
  refine take_e hD (by decide) (by decide) fun r G1 r0 r1 x1 d1 => ?_
  simp
  by_cases c1 : r < 3
  · simp [c1, g__law_spoilt_1]
    refine take_e d1 (by decide) (by decide) fun q G2 q0 q1 x2 d2 => ?_
    simp
    refine take_e d2 (by decide) (by decide) fun s G3 s0 s1 x3 d3 => ?_
    simp
    have x := (x1.trans x2).trans x3
    obtain ⟨i, rfl, hi⟩ : ∃ i : Nat, r = (i : Int) ∧ i < 3 := ⟨r.toNat, by omega, by omega⟩
    match i, hi with
    | 0, _ => exact ⟨_, atI0 _ _, k _ (.int m) G3 x d3 (.int _) (by simp [inRd]; omega) (by unfold dep; omega)⟩
    | 1, _ => exact ⟨_, atI1 _ _ _, k _ (.int _) G3 x d3 (.int _) (by simp [inRd]; omega) (by unfold dep; omega)⟩
    | 2, _ => exact ⟨_, atI2 _ _ _ _, k _ (.int _) G3 x d3 (.int _) (by simp [inRd]; omega) (by unfold dep; omega)⟩
  by_cases c2 : r = 3
  · subst c2
    simp [g__law_spoilt_2]
    refine take_e d1 (by decide) (by decide) fun q G2 q0 q1 x2 d2 => ?_
    simp
    exact k _ (.int _) G2 (x1.trans x2) d2 (.int _) (by simp [inRd]; omega) (by unfold dep; omega)
  by_cases c3 : r < 6
  · simp [c1, c2, c3, g__law_spoilt_3]
    refine take_e d1 (by decide) (by decide) fun q G2 q0 q1 x2 d2 => ?_
    simp
    exact k _ (.bool _) G2 (x1.trans x2) d2 (.bl _) rfl (by unfold dep; omega)
  simp [c1, c2, c3]
  refine take_e d1 (by decide) (by decide) fun q G2 q0 q1 x2 d2 => ?_
  simp [Wp_strI q0 (show q < 1000000 by omega)]
  refine take_e d2 (by decide) (by decide) fun s G3 s0 s1 x3 d3 => ?_
  simp
  have d3' := d3.ex (Ex0.push G3 (.lst [.int s]))
  refine take_e d3' (by decide) (by decide) fun t G4 t0 t1 x4 d4 => ?_
  simp
  have x := ((x1.trans x2).trans x3).trans ((Ext.push G3 (.lst [.int s])).trans x4)
  have hl := x4.at_ d3.len (push_at G3 (.lst [.int s]))
  obtain ⟨i, hr, hi⟩ : ∃ i : Nat, r - 6 = (i : Int) ∧ i < 4 := ⟨(r - 6).toNat, by omega, by omega⟩
  rw [hr]
  have dl : dep (.list [.int s]) ≤ 1 := by unfold dep deps deps dep; simp
  have dt : dep (.tuple [.int t]) ≤ 1 := by unfold dep deps deps dep; simp
  match i, hi with
  | 0, _ => exact ⟨_, atI0 _ _, k _ .none G4 x d4 .non rfl (by unfold dep; omega)⟩
  | 1, _ => exact ⟨_, atI1 _ _ _, k _ (.str _) G4 x d4 (.str _) rfl (by unfold dep; omega)⟩
  | 2, _ => exact ⟨_, atI2 _ _ _ _, k _ (.list [.int s]) G4 x d4 (.lst d3.len hl (.cons (.int s) .nil)) rfl dl⟩
  | 3, _ => exact ⟨_, atI3 _ _ _ _ _, k _ (.tuple [.int t]) G4 x d4 (.tup (.cons (.int t) .nil)) rfl dt⟩
/-- values that stand for data, by the refs of S alone -/
inductive Fl (S : Nat → Prop) (G : Gp) : U → PyData → Prop
  | non : Fl S G .non .none
  | bl (x : Bool) : Fl S G (.bl x) (.bool x)
  | int (i : Int) : Fl S G (.int i) (.int i)
  | str (x : Str) : Fl S G (.str x) (.str x)
  | lst {l : Nat} {ns : List Int} (h : S l) (e : G[l]? = some (.lst (ns.map .int))) : Fl S G (.ref l) (.list (ns.map .int))
inductive Sh (S : Nat → Prop) (G : Gp) : U → PyData → Prop
  | fl {u : U} {d : PyData} (h : Fl S G u d) : Sh S G u d
  | l3 {l : Nat} {x y z : U} {dx dy dz : PyData} (h : S l) (e : G[l]? = some (.lst [x, y, z])) (h1 : Fl S G x dx) (h2 : Fl S G y dy) (h3 : Fl S G z dz) : Sh S G (.ref l) (.list [dx, dy, dz])
theorem Fl.mono {S S' : Nat → Prop} {G G' : Gp} (hS : ∀ q, S q → S' q) (hG : ∀ q, S q → q < G.length → G'[q]? = G[q]?) {u : U} {d : PyData} (h : Fl S G u d) : Fl S' G' u d := by
  cases h with
  | non => exact .non
  | bl x => exact .bl x
  | int i => exact .int i
  | str x => exact .str x
  | lst h e => exact .lst (hS _ h) ((hG _ h (lt_of_at e)).trans e)
theorem Sh.mono {S S' : Nat → Prop} {G G' : Gp} (hS : ∀ q, S q → S' q) (hG : ∀ q, S q → q < G.length → G'[q]? = G[q]?) {u : U} {d : PyData} (h : Sh S G u d) : Sh S' G' u d := by
  cases h with
  | fl h => exact .fl (h.mono hS hG)
  | l3 h e h1 h2 h3 => exact .l3 (hS _ h) ((hG _ h (lt_of_at e)).trans e) (h1.mono hS hG) (h2.mono hS hG) (h3.mono hS hG)
theorem Fl.dt {S : Nat → Prop} {G : Gp} (hS : ∀ q, S q → 2 < q) {u : U} {d : PyData} (h : Fl S G u d) : D2 G u d := by
  cases h with
  | non => exact .non
  | bl x => exact .bl x
  | int i => exact .int i
  | str x => exact .str x
  | lst h e => exact .lst (hS _ h) e (Dts.ints _)
theorem Sh.dt {S : Nat → Prop} {G : Gp} (hS : ∀ q, S q → 2 < q) {u : U} {d : PyData} (h : Sh S G u d) : D2 G u d := by
  cases h with
  | fl h => exact h.dt hS
  | l3 h e h1 h2 h3 => exact .lst (hS _ h) e (.cons (h1.dt hS) (.cons (h2.dt hS) (.cons (h3.dt hS) .nil)))
theorem spoilt_row_spec {S : Nat → Prop} {G : Gp} {m : Int} {r : Nat} {a b c : Int} {P : PUt} {E : XP} (hD : Dr G) (m1 : 2 ≤ m) (m2 : m ≤ 12) (hr : 2 < r) (hSr : S r) (hSn : ∀ q, G.length ≤ q → S q) (hg : G[r]? = some (.lst [.int a, .int b, .int c]))
    (k : ∀ u G', Dr G' → G.length ≤ G'.length → (∀ l, 2 < l → l ≠ r → l < G.length → G'[l]? = G[l]?) → (∃ d, Sh S G' u d) → (∃ d, Sh S G' (.ref r) d) → P u G') : Wp (F__law_spoilt_row [.ref 2, .int m, .ref r] G) P E := by
  rw [run__law_spoilt_row, Wp_fin]
  unfold g__law_spoilt_row
  simp
  refine take_e hD (by decide) (by decide) fun q G1 q0 q1 x1 d1 => ?_
  have h1 := x1.at_ hr hg
  have r1 := lt_of_at h1
  -- what stays
  have row : ∀ G', Ext 2 G G' → Sh S G' (.ref r) (.list ([a, b, c].map .int)) := fun G' x => .fl (.lst hSr (x.at_ hr hg))
  have kx : ∀ u d G', Ext 2 G G' → Dr G' → Fl S G' u d → P u G' := fun u d G' x d' hu => k u G' d' x.1 (fun l h1 _ h2 => x.2 l h1 h2) ⟨d, .fl hu⟩ ⟨_, row G' x⟩
  -- one item set
  have ks : ∀ (G' : Gp) (x y z : U) (dx dy dz : PyData), Ext 2 G G' → Dr G' → Fl (fun q => S q ∧ q ≠ r) G' x dx → Fl (fun q => S q ∧ q ≠ r) G' y dy → Fl (fun q => S q ∧ q ≠ r) G' z dz → P (.ref r) (G'.set r (.lst [x, y, z])) := by
    intro G' x y z dx dy dz xx d' f1 f2 f3
    have hg' := xx.at_ hr hg
    have mo : ∀ {u d}, Fl (fun q => S q ∧ q ≠ r) G' u d → Fl S (G'.set r (.lst [x, y, z])) u d := fun h => h.mono (fun q h => h.1) (fun q h _ => List.getElem?_set_ne (Ne.symm h.2))
    have dd : Sh S (G'.set r (.lst [x, y, z])) (.ref r) (.list [dx, dy, dz]) := .l3 hSr (set_get hg') (mo f1) (mo f2) (mo f3)
    refine k _ _ ?_ (by simpa using xx.1) (fun l l1 l2 l3 => ?_) ⟨_, dd⟩ ⟨_, dd⟩
    · obtain ⟨a, st, c, gs, s0, s1, h2, h0⟩ := d'
      exact ⟨a, st, c, gs, s0, s1, by rw [List.getElem?_set_ne (by omega)]; exact h2, by rw [List.getElem?_set_ne (by omega)]; exact h0⟩
    · rw [List.getElem?_set_ne (Ne.symm l2)]
      exact xx.2 l l1 l3
  simp
  obtain ⟨i, rfl, hi⟩ : ∃ i : Nat, q = (i : Int) ∧ i < 5 := ⟨q.toNat, by omega, by omega⟩
  match i, hi with
  | 0, _ =>
    simp [g__law_spoilt_row_1, Wp_slR h1]
    have x2 : Ex0 G1 (G1 ++ [OU.lst [.int a, .int b], OU.lst [.int 1]]) := Ex0.app _ _
    have h2 := x2.at_ h1
    have g2 : (G1 ++ [OU.lst [.int a, .int b], OU.lst [.int 1]])[G1.length + 1]? = some (.lst [.int 1]) := by simp
    rw [Wp_addL r (G1.length + 1) h2 g2]
    refine ⟨by simp, ?_⟩
    simp
    have x3 : Ex0 G1 (G1 ++ [OU.lst [.int a, .int b], OU.lst [.int 1], OU.lst [.int a, .int b, .int c, .int 1], OU.lst []]) := Ex0.app _ _
    have e0 : (G1 ++ [OU.lst [.int a, .int b], OU.lst [.int 1], OU.lst [.int a, .int b, .int c, .int 1], OU.lst []])[G1.length]? = some (OU.lst [.int a, .int b]) := by simp
    have e1 : (G1 ++ [OU.lst [.int a, .int b], OU.lst [.int 1], OU.lst [.int a, .int b, .int c, .int 1], OU.lst []])[G1.length + 2]? = some (OU.lst [.int a, .int b, .int c, .int 1]) := by simp
    have e2 : (G1 ++ [OU.lst [.int a, .int b], OU.lst [.int 1], OU.lst [.int a, .int b, .int c, .int 1], OU.lst []])[G1.length + 3]? = some (OU.lst []) := by simp
    refine take_e (d1.ex x3) (by decide) (by decide) fun s G2 s0 s1 x4 d2 => ?_
    have l1 := d1.len
    have f0 := x4.at_ l1 e0
    have f1 := x4.at_ (by omega) e1
    have f2 := x4.at_ (by omega) e2
    have xx := x1.trans (x3.ext.trans x4)
    simp
    obtain ⟨j, rfl, hj⟩ : ∃ j : Nat, s = (j : Int) ∧ j < 6 := ⟨s.toNat, by omega, by omega⟩
    match j, hj with
    | 0, _ => exact ⟨_, atI_pos (by decide) rfl, kx _ _ G2 xx d2 (.lst (ns := [a, b]) (hSn _ x1.1) f0)⟩
    | 1, _ => exact ⟨_, atI_pos (by decide) rfl, kx _ _ G2 xx d2 (.lst (ns := [a, b, c, 1]) (hSn _ (Nat.le_add_right_of_le x1.1)) f1)⟩
    | 2, _ => exact ⟨_, atI_pos (by decide) rfl, kx _ _ G2 xx d2 (.lst (ns := []) (hSn _ (Nat.le_add_right_of_le x1.1)) f2)⟩
    | 3, _ => exact ⟨_, atI_pos (by decide) rfl, kx _ .none G2 xx d2 .non⟩
    | 4, _ => exact ⟨_, atI_pos (by decide) rfl, kx _ (.str _) G2 xx d2 (.str _)⟩
    | 5, _ => exact ⟨_, atI_pos (by decide) rfl, kx _ (.int 7) G2 xx d2 (.int 7)⟩
  | 1, _ =>
    simp [g__law_spoilt_row_6, g__law_spoilt_row_7]
    refine take_e d1 (by decide) (by decide) fun s G2 s0 s1 x2 d2 => ?_
    have h2 := x2.at_ hr h1
    simp
    obtain ⟨u, d, hu, hf⟩ : ∃ u d, atI [U.int m, .int (-1), .bl true, .non, .str ("0" : Str), .int 1000000000000000000000000000000, .bl false] s = some u ∧ ∀ S G', Fl S G' u d := by
      obtain ⟨j, rfl, hj⟩ : ∃ j : Nat, s = (j : Int) ∧ j < 7 := ⟨s.toNat, by omega, by omega⟩
      match j, hj with
      | 0, _ => exact ⟨_, _, atI_pos (by decide) rfl, fun _ _ => .int _⟩
      | 1, _ => exact ⟨_, _, atI_pos (by decide) rfl, fun _ _ => .int _⟩
      | 2, _ => exact ⟨_, _, atI_pos (by decide) rfl, fun _ _ => .bl _⟩
      | 3, _ => exact ⟨_, _, atI_pos (by decide) rfl, fun _ _ => .non⟩
      | 4, _ => exact ⟨_, _, atI_pos (by decide) rfl, fun _ _ => .str _⟩
      | 5, _ => exact ⟨_, _, atI_pos (by decide) rfl, fun _ _ => .int _⟩
      | 6, _ => exact ⟨_, _, atI_pos (by decide) rfl, fun _ _ => .bl _⟩
    refine ⟨u, hu, ?_⟩
    refine take_e d2 (by decide) (by decide) fun t G3 t0 t1 x3 d3 => ?_
    have h3 := x3.at_ hr h2
    simp [Wp_setU h3]
    have xx := (x1.trans x2).trans x3
    by_cases ct : t = 0
    · subst ct
      exact ⟨0, by rfl, ks G3 _ _ _ _ _ _ xx d3 (hf _ _) (.int _) (.int _)⟩
    · have ct : t = 1 := by omega
      subst ct
      exact ⟨1, by rfl, ks G3 _ _ _ _ _ _ xx d3 (.int _) (hf _ _) (.int _)⟩
  | 2, _ =>
    simp [g__law_spoilt_row_4, g__law_spoilt_row_7, Wp_idxR h1, Wp_setU h1]
    exact ks G1 _ _ _ _ _ _ x1 d1 (.int _) (.int _) (.int _)
  | 3, _ =>
    simp [g__law_spoilt_row_2, g__law_spoilt_row_5, g__law_spoilt_row_7]
    have x2 := Ex0.push G1 (OU.lst [.int 1])
    refine take_e (d1.ex x2) (by decide) (by decide) fun s G2 s0 s1 x3 d2 => ?_
    have xx := x1.trans (x2.ext.trans x3)
    have h2 := x3.at_ hr (x2.at_ h1)
    have e1 := x3.at_ d1.len (push_at G1 (OU.lst [.int 1]))
    obtain ⟨u, d, hu, hf⟩ : ∃ u d, atI [U.int 0, .int 201, .bl true, .int (-3), .non, .str ("1" : Str), .ref G1.length, .int 1000000000000000000000000000000] s = some u ∧ Fl (fun q => S q ∧ q ≠ r) G2 u d := by
      obtain ⟨j, rfl, hj⟩ : ∃ j : Nat, s = (j : Int) ∧ j < 8 := ⟨s.toNat, by omega, by omega⟩
      match j, hj with
      | 0, _ => exact ⟨_, _, atI_pos (by decide) rfl, .int _⟩
      | 1, _ => exact ⟨_, _, atI_pos (by decide) rfl, .int _⟩
      | 2, _ => exact ⟨_, _, atI_pos (by decide) rfl, .bl _⟩
      | 3, _ => exact ⟨_, _, atI_pos (by decide) rfl, .int _⟩
      | 4, _ => exact ⟨_, _, atI_pos (by decide) rfl, .non⟩
      | 5, _ => exact ⟨_, _, atI_pos (by decide) rfl, .str _⟩
      | 6, _ => exact ⟨_, _, atI_pos (by decide) rfl, .lst (ns := [1]) ⟨hSn _ x1.1, by omega⟩ e1⟩
      | 7, _ => exact ⟨_, _, atI_pos (by decide) rfl, .int _⟩
    simp [hu, Wp_setU h2]
    exact ks G2 _ _ _ _ _ _ xx d2 (.int _) (.int _) hf
  | 4, _ =>
    simp [g__law_spoilt_row_3, g__law_spoilt_row_5, g__law_spoilt_row_7, Wp_idxR h1]
    exact kx _ _ _ (x1.trans (Ext.push _ _)) (d1.ex (Ex0.push _ _)) (.lst (ns := [b, a, c]) (hSn _ x1.1) (push_at _ _))
end K06

set_option Elab.async false
set_option linter.all false
set_option maxRecDepth 100000
set_option maxHeartbeats 4000000
set_option autoImplicit false
namespace K06
open PySem PySem.Spec L2 FL
/-- refs from n0 on, but l -/
abbrev Sn (n0 l : Nat) : Nat → Prop := fun q => n0 ≤ q ∧ q ≠ l
def IsRow (n0 l : Nat) (G : Gp) (u : U) : Prop := ∃ r a b c, u = .ref r ∧ n0 ≤ r ∧ r ≠ l ∧ G[r]? = some (.lst [.int a, .int b, .int c])
theorem IsRow.sh {n0 l : Nat} {G : Gp} {u : U} (h : IsRow n0 l G u) : ∃ d, Sh (Sn n0 l) G u d := by
  obtain ⟨r, a, b, c, rfl, h1, h2, h3⟩ := h
  exact ⟨_, .fl (.lst (ns := [a, b, c]) ⟨h1, h2⟩ h3)⟩
theorem IsRow.mono {n0 l l' : Nat} {G G' : Gp} {u : U} (h : IsRow n0 l G u) (hG : ∀ q, n0 ≤ q → q ≠ l → q < G.length → G'[q]? = G[q]?) (hl : l' = l ∨ G.length ≤ l') : IsRow n0 l' G' u := by
  obtain ⟨r, a, b, c, rfl, h1, h2, h3⟩ := h
  have hr := lt_of_at h3
  exact ⟨r, a, b, c, rfl, h1, by omega, (hG r h1 h2 hr).trans h3⟩
structure RowS (n0 l : Nat) (G : Gp) (us : List U) : Prop where
  hl : G[l]? = some (.lst us)
  h0 : n0 ≤ l
  len : us.length ≤ 500
  pos : 0 < us.length
  row : ∀ u ∈ us, IsRow n0 l G u
structure RowD (n0 l : Nat) (G : Gp) (us : List U) : Prop where
  hl : G[l]? = some (.lst us)
  h0 : n0 ≤ l
  len : us.length ≤ 1200
  row : ∀ u ∈ us, ∃ d, Sh (Sn n0 l) G u d
theorem RowS.rd {n0 l : Nat} {G : Gp} {us : List U} (h : RowS n0 l G us) : RowD n0 l G us := ⟨h.hl, h.h0, by have := h.len; omega, fun u hu => (h.row u hu).sh⟩
theorem RowS.mono {n0 l : Nat} {G G' : Gp} {us : List U} (h : RowS n0 l G us) (h2 : 2 < n0) (x : Ext 2 G G') : RowS n0 l G' us :=
  ⟨x.at_ (Nat.lt_of_lt_of_le h2 h.h0) h.hl, h.h0, h.len, h.pos, fun u hu => (h.row u hu).mono (fun q h1 _ h3 => x.2 q (by omega) h3) (.inl rfl)⟩
theorem RowD.mono {n0 l : Nat} {G G' : Gp} {us : List U} (h : RowD n0 l G us) (h2 : 2 < n0) (x : Ext 2 G G') : RowD n0 l G' us :=
  ⟨x.at_ (Nat.lt_of_lt_of_le h2 h.h0) h.hl, h.h0, h.len, fun u hu => by
    obtain ⟨d, hd⟩ := h.row u hu
    exact ⟨d, hd.mono (fun _ z => z) (fun q h1 h3 => x.2 q (by omega) h3)⟩⟩
/-- what stays of the heap before n0 -/
def Old (n0 : Nat) (G G' : Gp) : Prop := n0 ≤ G'.length ∧ ∀ q, 2 < q → q < n0 → G'[q]? = G[q]?
theorem Old.ext {n0 : Nat} {G G1 G2 : Gp} (h : Old n0 G G1) (x : Ext 2 G1 G2) : Old n0 G G2 := ⟨Nat.le_trans h.1 x.1, fun q h1 h2 => (x.2 q h1 (Nat.lt_of_lt_of_le h2 h.1)).trans (h.2 q h1 h2)⟩
theorem Old.set {n0 : Nat} {G G1 : Gp} (h : Old n0 G G1) {l : Nat} (hl : n0 ≤ l) (o : OU) : Old n0 G (G1.set l o) := ⟨by simpa using h.1, fun q h1 h2 => by rw [List.getElem?_set_ne (by omega)]; exact h.2 q h1 h2⟩
/-- one row spoilt, and put back -/
theorem put_spec {n0 l : Nat} {G0 G : Gp} {m : Int} {us : List U} {i : Int} {u : U} {env : Ev} {P : PEt} {E : XP} (hD : Dr G) (h2 : 2 < n0) (o : Old n0 G0 G) (h : RowS n0 l G us) (m1 : 2 ≤ m) (m2 : m ≤ 12) (i0 : 0 ≤ i) (i1 : i < us.length) (hu : atI us i = some u)
    (k : ∀ us' G', Dr G' → Old n0 G0 G' → RowD n0 l G' us' → P env G') : Wp (F__law_spoilt_row [.ref 2, .int m, u] G) (fun v G' => Wp (setU (.ref l) (.int i) v G') (KU env P) noX) E := by
  have hmem : u ∈ us := by
    have e := atI_nat (xs := us) (i := i.toNat) (by omega)
    rw [show ((i.toNat : Nat) : Int) = i by omega, hu] at e
    exact List.mem_of_getElem? e.symm
  obtain ⟨r, a, b, c, rfl, r0, rl, hr⟩ := h.row _ hmem
  have ll := lt_of_at h.hl
  refine spoilt_row_spec (S := Sn n0 l) hD m1 m2 (by omega) ⟨r0, rl⟩ (fun q hq => ⟨by have := o.1; omega, by omega⟩) hr ?_
  intro v G' d' len st hv hrow
  have hl' : G'[l]? = some (.lst us) := (st l (by have := h.h0; omega) (Ne.symm rl) ll).trans h.hl
  have ix : ixN us.length i = some i.toNat := by unfold ixN; rw [if_pos i0, if_pos (by omega)]
  have mo : ∀ {x d}, Sh (Sn n0 l) G' x d → Sh (Sn n0 l) (G'.set l (.lst (us.set i.toNat v))) x d := fun h => h.mono (fun _ z => z) (fun q hq _ => List.getElem?_set_ne (Ne.symm hq.2))
  simp [Wp_setU hl', ix]
  refine k (us.set i.toNat v) _ ?_ ?_ ⟨set_get hl', h.h0, by simp; have := h.len; omega, fun x hx => ?_⟩
  · obtain ⟨a, st, c, gs, s0, s1, h2', h0'⟩ := d'
    have := h.h0
    exact ⟨a, st, c, gs, s0, s1, by rw [List.getElem?_set_ne (by omega)]; exact h2', by rw [List.getElem?_set_ne (by omega)]; exact h0'⟩
  · refine Old.set ⟨Nat.le_trans o.1 len, fun q q1 q2 => ?_⟩ h.h0 _
    exact (st q q1 (by omega) (by have := o.1; omega)).trans (o.2 q q1 q2)
  · rcases List.mem_or_eq_of_mem_set hx with hx | hx
    · obtain ⟨r', a', b', c', rfl, r0', rl', hr'⟩ := h.row x hx
      by_cases e : r' = r
      · subst e
        obtain ⟨d, hd⟩ := hrow
        exact ⟨d, mo hd⟩
      · have := (st r' (by omega) e (lt_of_at hr')).trans hr'
        exact ⟨_, mo (.fl (.lst (ns := [a', b', c']) ⟨r0', rl'⟩ this))⟩
    · subst hx
      obtain ⟨d, hd⟩ := hv
      exact ⟨d, mo hd⟩
theorem dts_of {b : Nat} {G : Gp} : ∀ {us : List U}, (∀ u ∈ us, ∃ d, Dt b G u d) → ∃ ds, Dts b G us ds
  | [], _ => ⟨[], .nil⟩
  | u :: us, h => by
    obtain ⟨d, hd⟩ := h u (by simp)
    obtain ⟨ds, hs⟩ := dts_of (us := us) fun x hx => h x (by simp [hx])
    exact ⟨d :: ds, .cons hd hs⟩
theorem tupled_spec {G0 G : Gp} {u : U} {d : PyData} (x : Ex0 G0 G) (h : D2 G0 u d) : Wp (F__law_tupled [u] G) (fun v G' => G' = G ∧ ∃ d', D2 G0 v d') noX := by
  rw [run__law_tupled, Wp_fin]
  unfold g__law_tupled
  have h' := h.mono x.ext
  simp [Wp_isLst h']
  cases h with
  | lst hb hl h =>
    simp [isLstD, Wp_tupleR (x.at_ hl)]
    exact ⟨_, .tup h⟩
  | tup h => simp [isLstD]; exact ⟨_, .tup h⟩
  | non => simp [isLstD]; exact ⟨_, .non⟩
  | bl x => simp [isLstD]; exact ⟨_, .bl x⟩
  | int x => simp [isLstD]; exact ⟨_, .int x⟩
  | str x => simp [isLstD]; exact ⟨_, .str x⟩
end K06

set_option Elab.async false
set_option linter.all false
set_option maxRecDepth 100000
set_option maxHeartbeats 4000000
set_option autoImplicit false
namespace K06
open PySem PySem.Spec L2 FL
theorem cutU_to {α : Type} (us : List α) {h : Int} (h0 : 0 ≤ h) : cutU us none (some h) = us.take h.toNat := by
  obtain ⟨k, rfl⟩ : ∃ k : Nat, h = (k : Int) := ⟨h.toNat, by omega⟩
  unfold cutU
  rw [HT.sIx_none, HT.sIx_nat]
  simp only [List.drop_zero, Nat.sub_zero, Int.toNat_natCast]
  by_cases c : k ≤ us.length
  · rw [Nat.min_eq_left c]
  · rw [Nat.min_eq_right (by omega), List.take_of_length_le (Nat.le_refl _), List.take_of_length_le (by omega)]
theorem old0 {G G1 : Gp} (x : Ex0 G G1) : Old G.length G G1 := ⟨x.1, fun q _ h => x.2 q h⟩
theorem Dr.set {G : Gp} (h : Dr G) {l : Nat} (hl : 2 < l) (o : OU) : Dr (G.set l o) := by
  obtain ⟨a, st, c, gs, s0, s1, h2, h0⟩ := h
  exact ⟨a, st, c, gs, s0, s1, by rw [List.getElem?_set_ne (by omega)]; exact h2, by rw [List.getElem?_set_ne (by omega)]; exact h0⟩
/-- the rows, and the state -/
def N1 (n0 : Nat) (G0 : Gp) (m : Int) (ld : U) (e : Ev) (G : Gp) : Prop := ∃ l us, e = [some (.ref 2), some (.int m), some ld, some (.ref l), none, none, none, none, none, none, none] ∧ RowS n0 l G us ∧ Dr G ∧ Old n0 G0 G
def N2 (n0 : Nat) (G0 : Gp) (m : Int) (ld : U) (e : Ev) (G : Gp) : Prop := ∃ l us, (∃ x4 x5 x6 x7, e = [some (.ref 2), some (.int m), some ld, some (.ref l), x4, x5, x6, x7, none, none, none]) ∧ RowD n0 l G us ∧ Dr G ∧ Old n0 G0 G
theorem load_rows {G : Gp} {m : Int} {ts : List Tri} {Q : Qs} (hD : Dr G) (hts : ts.length ≤ 400) (k : ∀ us G', Ex0 G G' → us.length = ts.length → G'[G.length]? = some (.lst us) → (∀ u ∈ us, IsRow G.length G.length G' u) → Q.nx [some (.ref 2), some (.int m), some (.tup (ts.map tU)), some (.ref G.length), none, none, none, none, none, none, none] G') :
    Ws (sAsg (eComp [8] (iOf (eVar 2) kSeq) (gNm 8) tYesB (eCall bList (aCons (eVar 8) aNil))) (gNm 3) [some (.ref 2), some (.int m), some (.tup (ts.map tU)), none, none, none, none, none, none, none, none] G) Q := by
  simp
  obtain ⟨src, h1, h2, h3⟩ := kSeq_of (G := G) (u := .tup (ts.map tU)) (us := ts.map tU) rfl (by simp)
  refine Wp_comp (xs := ts.map tU) (fun i acc G' => Ex0 G G' ∧ acc.length = i ∧ ∀ u ∈ acc, IsRow G.length G.length G' u) (iOf_ok (eq_of_wp (by simp)) h1) ⟨h2, fun i acc G' hi h => h3 i G' hi h.1⟩ (by simp; omega) ⟨Ex0.push _ _, rfl, by simp⟩ (fun i hi acc G' hI hg => ?_) (fun acc G' ha hI hg => ?_)
  · obtain ⟨x, ha, hr⟩ := hI
    have hi' : i < ts.length := by simpa using hi
    have hlt := lt_of_at hg
    simp [tU, wipeE]
    refine ⟨by rw [List.getElem?_append_left hlt]; exact hg, ?_, ha, fun u hu => ?_⟩
    · exact (x.trans (Ex0.push G' _)).set (Nat.le_refl _) _
    · rcases hu with hu | hu
      · exact (hr u hu).mono (fun q q1 q2 q3 => by rw [List.getElem?_set_ne (Ne.symm q2), List.getElem?_append_left q3]) (.inl rfl)
      · subst hu
        exact ⟨_, _, _, _, rfl, by omega, by omega, by rw [List.getElem?_set_ne (by omega)]; exact push_at _ _⟩
  · obtain ⟨x, ha', hr⟩ := hI
    simp
    refine k acc G' x (by simpa using ha') hg hr
theorem load_first {G : Gp} {m : Int} {ts : List Tri} {Q : Qs} {us : List U} {G1 : Gp} (hD : Dr G1) (h2 : 2 < G.length) (hts : ts.length ≤ 400) (x : Ex0 G G1) (hlen : us.length = ts.length) (hg : G1[G.length]? = some (.lst us)) (hr : ∀ u ∈ us, IsRow G.length G.length G1 u) (k : ∀ e G', N1 G.length G m (.tup (ts.map tU)) e G' → Q.nx e G') :
    Ws (sIf (bVal (eBin gEq (eCall bLen (aCons (eVar 3) aNil)) (eC (.int 0)))) g__law_spoilt_load_1 sNil [some (.ref 2), some (.int m), some (.tup (ts.map tU)), some (.ref G.length), none, none, none, none, none, none, none] G1) Q := by
  simp [Wp_lenR hg]
  by_cases c : us = []
  · simp [c, g__law_spoilt_load_1]
    refine take_e hD (by decide) (by decide) fun r G2 r0 r1 x2 d2 => ?_
    simp
    have x3 := Ex0.app G2 [OU.lst [.int 0, .int 1, .int (1 + r)], OU.lst [.ref G2.length]]
    have o2 := ((old0 x).ext x2).ext x3.ext
    refine k _ _ ⟨_, [.ref G2.length], rfl, ⟨by simp, ?_, by simp, by simp, fun u hu => ?_⟩, d2.ex x3, o2⟩
    · have := x.1; have := x2.1; omega
    · rw [List.mem_singleton.mp hu]
      exact ⟨_, 0, 1, 1 + r, rfl, by have := x.1; have := x2.1; omega, by omega, by simp⟩
  · simp [c]
    exact k _ _ ⟨_, us, rfl, ⟨hg, Nat.le_refl _, by omega, List.length_pos_iff.mpr c, hr⟩, hD, old0 x⟩
theorem rowS_at {n0 l : Nat} {G : Gp} {us : List U} (h : RowS n0 l G us) {i : Int} (i0 : 0 ≤ i) (i1 : i < us.length) : ∃ u, atI us i = some u ∧ us[i.toNat]? = some u ∧ IsRow n0 l G u := by
  have hi : i.toNat < us.length := by omega
  exact ⟨us[i.toNat], atI_pos i0 (List.getElem?_eq_getElem hi), List.getElem?_eq_getElem hi, h.row _ (List.getElem_mem hi)⟩
theorem Wp_popAtI {G : Gp} {l : Nat} {xs : List U} (h : G[l]? = some (.lst xs)) {i : Int} {u : U} {P : PUt} {E : XP} (i0 : 0 ≤ i) (hb : i < 1000000) (hu : xs[i.toNat]? = some u) : Wp (mPopAt (.ref l) [.int i] G) P E ↔ P u (G.set l (.lst (xs.eraseIdx i.toNat))) := by
  obtain ⟨k, rfl⟩ : ∃ k : Nat, i = (k : Int) := ⟨i.toNat, by omega⟩
  exact Wp_popAt h (by simpa using hu) (by omega)
theorem five_spec {n0 : Nat} {G0 G : Gp} {m ati ch : Int} {l : Nat} {ld : U} {Q : Qs} (h2 : 2 < n0) (hD : Dr G) (o : Old n0 G0 G) (k : ∀ us G', Ext 2 G G' → Dr G' → RowS n0 G.length G' us → us.length = 5 → Q.nx [some (.ref 2), some (.int m), some ld, some (.ref G.length), some (.int ati), some (.int ch), none, none, none, none, none] G') :
    Ws (sAsg (eComp [9, 10] (iOf (eTup (aCons (eTup (aCons (eC (.int 0)) (aCons (eC (.int 1)) aNil))) (aCons (eTup (aCons (eC (.int 1)) (aCons (eC (.int 0)) aNil))) (aCons (eTup (aCons (eC (.int 1)) (aCons (eC (.int 2)) aNil))) (aCons (eTup (aCons (eC (.int 2)) (aCons (eC (.int 0)) aNil))) (aCons (eTup (aCons (eC (.int 2)) (aCons (eC (.int 1)) aNil))) aNil)))))) kSeq) (gTup (gCons (gNm 9) (gCons (gNm 10) gNil)) 2) tYesB (eLst (aCons (eVar 9) (aCons (eVar 10) (aCons (eBin gSub (eC (.int 200)) (eBin gMul (eBin gAdd (eVar 9) (eVar 10)) (eCall F__law_take (aCons (eVar 0) (aCons (eC (.int 2)) aNil))))) aNil))))) (gNm 3) [some (.ref 2), some (.int m), some ld, some (.ref l), some (.int ati), some (.int ch), none, none, none, none, none] G) Q := by
  simp
  have hn := o.1
  obtain ⟨src, h1, h2', h3⟩ := kSeq_of (G := G) (u := .tup [.tup [.int 0, .int 1], .tup [.int 1, .int 0], .tup [.int 1, .int 2], .tup [.int 2, .int 0], .tup [.int 2, .int 1]]) rfl (by simp)
  refine Wp_comp (xs := [.tup [.int 0, .int 1], .tup [.int 1, .int 0], .tup [.int 1, .int 2], .tup [.int 2, .int 0], .tup [.int 2, .int 1]]) (fun i acc G' => Ext 2 G G' ∧ Dr G' ∧ acc.length = i ∧ ∀ u ∈ acc, IsRow n0 G.length G' u) (iOf_ok (eq_of_wp (by simp)) h1) ⟨h2', fun i acc G' hi h => ?_⟩ (by decide) ⟨Ext.push _ _, hD.ex (Ex0.push _ _), rfl, by simp⟩ (fun i hi acc G' hI hg => ?_) (fun acc G' ha hI hg => ?_)
  · cases h1; rfl
  · obtain ⟨x, d', ha, hr⟩ := hI
    obtain ⟨a, b, hab, ab⟩ : ∃ a b : Int, ([.tup [.int 0, .int 1], .tup [.int 1, .int 0], .tup [.int 1, .int 2], .tup [.int 2, .int 0], .tup [.int 2, .int 1]] : List U)[i] = .tup [.int a, .int b] ∧ (0 ≤ a + b ∧ a + b < 100) := by
      have hi' : i < 5 := hi
      match i, hi' with
      | 0, _ => exact ⟨0, 1, rfl, by decide⟩
      | 1, _ => exact ⟨1, 0, rfl, by decide⟩
      | 2, _ => exact ⟨1, 2, rfl, by decide⟩
      | 3, _ => exact ⟨2, 0, rfl, by decide⟩
      | 4, _ => exact ⟨2, 1, rfl, by decide⟩
    rw [hab]
    simp [wipeE]
    have hl2 : 2 < G.length := Nat.lt_of_lt_of_le h2 hn
    refine take_e d' (by decide) (by decide) fun r G2 r0 r1 x2 d2 => ?_
    have hg2 := x2.at_ hl2 hg
    have hlt := lt_of_at hg2
    have mo : mulOk (a + b) r = true := mulOk_1 (by omega) (by omega)
    simp [mo]
    refine ⟨by rw [List.getElem?_append_left hlt]; exact hg2, ?_, (d2.ex (Ex0.push G2 _)).set hl2 _, ha, fun u hu => ?_⟩
    · exact ((x.trans x2).trans (Ext.push G2 _)).set (.inl (Nat.le_refl _)) _
    · rcases hu with hu | hu
      · exact (hr u hu).mono (fun q q1 q2 q3 => by rw [List.getElem?_set_ne (Ne.symm q2), List.getElem?_append_left (Nat.lt_of_lt_of_le q3 x2.1)]; exact x2.2 q (by omega) q3) (.inl rfl)
      · subst hu
        exact ⟨_, _, _, _, rfl, by have := x.1; have := x2.1; omega, by omega, by rw [List.getElem?_set_ne (by omega)]; exact push_at _ _⟩
  · obtain ⟨x, d', ha', hr⟩ := hI
    simp
    have h5 : acc.length = 5 := ha'
    exact k acc G' x d' ⟨hg, hn, by omega, by omega, hr⟩ h5
theorem mid_spec {n0 l : Nat} {G0 G : Gp} {m ati ch : Int} {us : List U} {ld : U} {Q : Qs} (h2 : 2 < n0) (hR : RowS n0 l G us) (hD : Dr G) (o : Old n0 G0 G) (m1 : 2 ≤ m) (m2 : m ≤ 12) (a0 : 0 ≤ ati) (a1 : ati < us.length) (c0 : 2 ≤ ch) (c1 : ch < 10) (k : ∀ e G', N2 n0 G0 m ld e G' → Q.nx e G') :
    KIf g__law_spoilt_load_11 g__law_spoilt_load_12 [some (.ref 2), some (.int m), some ld, some (.ref l), some (.int ati), some (.int ch), none, none, none, none, none] Q (decide (ch < 6)) G := by
  obtain ⟨u, hu, hu2, hru⟩ := rowS_at hR a0 a1
  have hl2 : 2 < l := Nat.lt_of_lt_of_le h2 hR.h0
  have ll := lt_of_at hR.hl
  have ixa : ixN us.length ati = some ati.toNat := by unfold ixN; rw [if_pos a0, if_pos (by omega)]
  by_cases k1 : ch < 6
  · simp [k1, g__law_spoilt_load_11, Wp_idxR hR.hl, hu]
    refine (put_spec (P := Q.nx) (env := [some (.ref 2), some (.int m), some ld, some (.ref l), some (.int ati), some (.int ch), none, none, none, none, none]) (E := noX) hD h2 o hR m1 m2 a0 a1 hu fun us' G' d' o' r' => k _ _ ⟨l, us', ⟨_, _, none, none, rfl⟩, r', d', o'⟩).nox fun v G' h => ?_
    simp
    exact h
  simp [k1]
  unfold g__law_spoilt_load_12
  simp
  by_cases k2 : ch = 6
  · obtain ⟨r, a, b, c, rfl, r0, rl, hr⟩ := hru
    simp [k2, g__law_spoilt_load_9, isLst_r hR.hl, Wp_idxR hR.hl, hu, Wp_listR hr]
    have x := Ex0.push G (OU.lst [.int a, .int b, .int c])
    have hl' := x.at_ hR.hl
    have hlen := hR.len
    rw [Wp_insert hl' a0 (by omega) (by omega)]
    simp
    refine k _ _ ⟨l, us.take ati.toNat ++ [.ref G.length] ++ us.drop ati.toNat, ⟨_, _, none, none, rfl⟩, ⟨by rw [set_get hl']; simp, hR.h0, by simp; omega, fun w hw => ?_⟩, (hD.ex x).set hl2 _, (o.ext x.ext).set hR.h0 _⟩
    have st : ∀ q, n0 ≤ q → q ≠ l → q < G.length → ((G ++ [OU.lst [.int a, .int b, .int c]]).set l (.lst (us.take ati.toNat ++ .ref G.length :: us.drop ati.toNat)))[q]? = G[q]? := fun q _ q2 q3 => by
      rw [List.getElem?_set_ne (Ne.symm q2), List.getElem?_append_left q3]
    have old : ∀ w ∈ us, ∃ d, Sh (Sn n0 l) ((G ++ [OU.lst [.int a, .int b, .int c]]).set l (.lst (us.take ati.toNat ++ .ref G.length :: us.drop ati.toNat))) w d := fun w hw => ((hR.row w hw).mono st (.inl rfl)).sh
    simp at hw
    rcases hw with hw | hw | hw
    · exact old w (List.mem_of_mem_take hw)
    · subst hw
      exact ⟨_, .fl (.lst (ns := [a, b, c]) ⟨o.1, by omega⟩ (by rw [List.getElem?_set_ne (by omega)]; exact push_at _ _))⟩
    · exact old w (List.mem_of_mem_drop hw)
  simp [k2]
  unfold g__law_spoilt_load_10
  simp
  -- the swap, and the new rows
  have rest : ∀ G', Ext 2 G G' → Dr G' → Ws (g__law_spoilt_load_8 [some (.ref 2), some (.int m), some ld, some (.ref l), some (.int ati), some (.int ch), none, none, none, none, none] G') Q := by
    intro G' x d'
    have hR' := hR.mono h2 x
    have o' := o.ext x
    have ll' := lt_of_at hR'.hl
    unfold g__law_spoilt_load_8
    simp
    by_cases k3 : ch = 7
    · simp [k3]
      unfold g__law_spoilt_load_5
      have b0 : 0 ≤ max 0 (ati - 1) := by omega
      have b1 : max 0 (ati - 1) < us.length := by omega
      obtain ⟨v, hv, hv2, hrv⟩ := rowS_at hR' b0 b1
      have ixb : ixN us.length (max 0 (ati - 1)) = some (max 0 (ati - 1)).toNat := by unfold ixN; rw [if_pos b0, if_pos (by omega)]
      have g1 := set_get (y := OU.lst (us.set ati.toNat v)) hR'.hl
      have ixb' : ixN (us.set ati.toNat v).length (max 0 (ati - 1)) = some (max 0 (ati - 1)).toNat := by rw [List.length_set]; exact ixb
      simp [Wp_idxR hR'.hl, hu, hv, Wp_setU hR'.hl, ixa, Wp_setU g1, ixb]
      refine k _ _ ⟨l, (us.set ati.toNat v).set (max 0 (ati - 1)).toNat u, ⟨_, _, _, none, rfl⟩, ⟨set_get hR'.hl, hR.h0, by simp; have := hR.len; omega, fun w hw => ?_⟩, d'.set hl2 _, o'.set hR.h0 _⟩
      have hw' : w ∈ us := by
        rcases List.mem_or_eq_of_mem_set hw with hw | hw
        · rcases List.mem_or_eq_of_mem_set hw with hw | hw
          · exact hw
          · rw [hw]; exact List.mem_of_getElem? hv2
        · rw [hw]; exact List.mem_of_getElem? hu2
      exact ((hR'.row w hw').mono (fun q _ q2 q3 => List.getElem?_set_ne (Ne.symm q2)) (.inl rfl)).sh
    · simp [k3]
      unfold g__law_spoilt_load_6
      refine Ws_sq (fun e G2 => ∃ us, Ext 2 G' G2 ∧ Dr G2 ∧ RowS n0 G'.length G2 us ∧ us.length = 5 ∧ e = [some (.ref 2), some (.int m), some ld, some (.ref G'.length), some (.int ati), some (.int ch), none, none, none, none, none]) (five_spec h2 d' o' fun us G2 x2 d2 r2 l5 => ⟨us, x2, d2, r2, l5, rfl⟩) ?_
      rintro e G2 ⟨us5, x2, d2, r2, l5, rfl⟩
      simp
      refine take_e d2 (by decide) (by decide) fun t G3 t0 t1 x3 d3 => ?_
      have r3 := r2.mono h2 x3
      simp [Wp_slR r3.hl, cutU_to us5 (show 0 ≤ 3 + t by omega)]
      have x4 := Ex0.push G3 (OU.lst (us5.take (3 + t).toNat))
      have o4 := ((o'.ext x2).ext x3).ext x4.ext
      have d4 := d3.ex x4
      have r4 : RowS n0 G3.length (G3 ++ [OU.lst (us5.take (3 + t).toNat)]) (us5.take (3 + t).toNat) := ⟨push_at _ _, ((o'.ext x2).ext x3).1, by simp; omega, by simp; omega, fun w hw => (r3.row w (List.mem_of_mem_take hw)).mono (fun q _ _ q3 => List.getElem?_append_left q3) (.inr (Nat.le_refl _))⟩
      by_cases k5 : ch = 9
      · simp [k5]
        unfold g__law_spoilt_load_4
        simp [Wp_lenR r4.hl]
        have hn5 : (us5.take (3 + t).toNat).length = (3 + t).toNat := by simp; omega
        have hn5' : (min (3 + t).toNat us5.length : Nat) = (3 + t).toNat := by omega
        refine take_e d4 (by omega) (by omega) fun w G5 w0 w1 x5 d5 => ?_
        have r5 := r4.mono h2 x5
        obtain ⟨v, hv, hv2, hrv⟩ := rowS_at r5 (i := w) w0 (by rw [hn5]; omega)
        simp [Wp_idxR r5.hl, hv]
        refine (put_spec (P := Q.nx) (env := [some (.ref 2), some (.int m), some ld, some (.ref G3.length), some (.int ati), some (.int 9), none, some (.int w), none, none, none]) (E := noX) d5 h2 (o4.ext x5) r5 m1 m2 w0 (by rw [hn5]; omega) hv fun us' G' d' o' r' => k _ _ ⟨_, us', ⟨_, _, _, _, rfl⟩, r', d', o'⟩).nox fun v G' h => ?_
        simp
        exact h
      · simp [k5]
        exact k _ _ ⟨_, _, ⟨_, _, none, none, rfl⟩, r4.rd, d4, o4⟩
  by_cases k3 : ch = 7
  · simp [k3]
    refine take_e hD (by decide) (by decide) fun r G1 r0 r1 x1 d1 => ?_
    simp
    by_cases k4 : r = 0
    · have hR' := hR.mono h2 x1
      have o' := o.ext x1
      have ll' := lt_of_at hR'.hl
      have hne : ati < 1000000 := by have := hR.len; omega
      simp [k4, g__law_spoilt_load_7, isLst_r hR'.hl, Wp_popAtI hR'.hl a0 hne hu2]
      have g1 := set_get (y := OU.lst (us.eraseIdx ati.toNat)) hR'.hl
      have x2 := Ex0.push (G1.set l (.lst (us.eraseIdx ati.toNat))) (OU.lst [u])
      have g2 := push_at (G1.set l (.lst (us.eraseIdx ati.toNat))) (OU.lst [u])
      rw [List.length_set] at g2
      rw [Wp_addL l G1.length (x2.at_ g1) g2]
      have hlen := hR.len
      have he : (us.eraseIdx ati.toNat).length ≤ us.length := List.length_eraseIdx_le _ _
      refine ⟨by simp; omega, ?_⟩
      simp
      refine k _ _ ⟨_, us.eraseIdx ati.toNat ++ [u], ⟨_, _, none, none, rfl⟩, ⟨by simp, by have := o'.1; omega, by simp; omega, fun w hw => ?_⟩, (d1.set hl2 _).ex (Ex0.app _ _), (o'.set hR.h0 _).ext (Ex0.app _ _).ext⟩
      have hw' : w ∈ us := by
        rcases List.mem_append.mp hw with hw | hw
        · exact List.mem_of_mem_eraseIdx hw
        · rw [List.mem_singleton.mp hw]; exact List.mem_of_getElem? hu2
      obtain ⟨r', a', b', c', rfl, r0', rl', hr'⟩ := hR'.row w hw'
      have hr2 := lt_of_at hr'
      exact ⟨_, .fl (.lst (ns := [a', b', c']) ⟨r0', by omega⟩ (by rw [List.getElem?_append_left (by simpa using hr2), List.getElem?_set_ne (Ne.symm rl')]; exact hr'))⟩
    · subst k3
      simp [k4]
      exact rest G1 x1 d1
  · simp [k3]
    exact rest G (Ext.refl _) hD
end K06

set_option Elab.async false
set_option linter.all false
set_option maxRecDepth 100000
set_option maxHeartbeats 4000000
set_option autoImplicit false
namespace K06
open PySem PySem.Spec L2 FL
theorem tri_dts {b : Nat} {G : Gp} : ∀ ts : List Tri, Dts b G (ts.map tU) (ts.map fun t => .tuple [.int t.1, .int t.2.1, .int t.2.2])
  | [] => .nil
  | t :: ts => .cons (.tup (.cons (.int _) (.cons (.int _) (.cons (.int _) .nil)))) (tri_dts ts)
def triD (ts : List Tri) : PyData := .tuple (ts.map fun t => .tuple [.int t.1, .int t.2.1, .int t.2.2])
theorem tri_dt {b : Nat} (G : Gp) (ts : List Tri) : Dt b G (.tup (ts.map tU)) (triD ts) := .tup (tri_dts ts)
theorem RowD.dt {n0 l : Nat} {G : Gp} {us : List U} (h : RowD n0 l G us) (h2 : 2 < n0) : ∃ ds, ds.length ≤ 1200 ∧ D2 G (.ref l) (.list ds) ∧ Dts 2 G us ds := by
  obtain ⟨ds, hds⟩ := dts_of (b := 2) (G := G) (us := us) fun u hu => by
    obtain ⟨d, hd⟩ := h.row u hu
    exact ⟨d, hd.dt fun q hq => by have := hq.1; omega⟩
  exact ⟨ds, by have := h.len; have := hds.len; omega, .lst (Nat.lt_of_lt_of_le h2 h.h0) h.hl hds, hds⟩
theorem spoilt_load_spec {G : Gp} {m : Int} {ts : List Tri} {P : PUt} {E : XP} (hD : Dr G) (m1 : 2 ≤ m) (m2 : m ≤ 12) (hts : ts.length ≤ 400)
    (k : ∀ um ul dm dl G', Ext 2 G G' → Dr G' → D2 G' um dm → D2 G' ul dl → dep dm ≤ 1 → (∀ ds, itD dl = some ds → ds.length < 16777216) → P (.tup [um, ul]) G') : Wp (F__law_spoilt_load [.ref 2, .int m, .tup (ts.map tU)] G) P E := by
  rw [run__law_spoilt_load, Wp_fin]
  unfold g__law_spoilt_load
  have h2 := hD.len
  have oe : ∀ {G'}, Old G.length G G' → Ext 2 G G' := fun o => ⟨o.1, fun q q1 q2 => o.2 q q1 q2⟩
  have kl : ∀ um dm G', Old G.length G G' → Dr G' → D2 G' um dm → dep dm ≤ 1 → P (.tup [um, .tup (ts.map tU)]) G' := fun um dm G' o d hu hd => k um _ dm (triD ts) G' (oe o) d hu (tri_dt _ _) hd fun ds e => by
    cases e
    simp
    omega
  refine Ws_sq (fun e G1 => ∃ us, Ex0 G G1 ∧ us.length = ts.length ∧ G1[G.length]? = some (.lst us) ∧ (∀ u ∈ us, IsRow G.length G.length G1 u) ∧ e = [some (.ref 2), some (.int m), some (.tup (ts.map tU)), some (.ref G.length), none, none, none, none, none, none, none]) (load_rows hD hts fun us G' x a b c => ⟨us, x, a, b, c, rfl⟩) ?_
  rintro e G1 ⟨us, x, a, b, c, rfl⟩
  refine Ws_sq (N1 G.length G m (.tup (ts.map tU))) (load_first (hD.ex x) h2 hts x a b c fun e G' h => h) ?_
  rintro e G2 ⟨l, us2, rfl, hR, d2, o2⟩
  have hlen := hR.len
  have hpos := hR.pos
  simp [Wp_lenR hR.hl]
  refine take_e d2 (by omega) (by omega) fun ati G3 a0 a1 x3 d3 => ?_
  simp
  refine take_e d3 (by decide) (by decide) fun ch G4 c0 c1 x4' d4 => ?_
  have x24 := x3.trans x4'
  have o4 := o2.ext x24
  have hR4 := hR.mono h2 x24
  simp
  by_cases k0 : ch = 0
  · simp [k0, g__law_spoilt_load_2]
    refine take_e d4 (by decide) (by decide) fun r G5 r0 r1 x5' d5 => ?_
    have o5 := o4.ext x5'
    obtain ⟨u, d, hu, hd, hdep⟩ : ∃ u d, atI [U.int 1, .int 13, .int 0, .int (-2), .bl true, .non, .str ("3" : Str), .tup [.int 2], .int 1000000000000000000000000000000] r = some u ∧ (∀ G', D2 G' u d) ∧ dep d ≤ 1 := by
      obtain ⟨j, rfl, hj⟩ : ∃ j : Nat, r = (j : Int) ∧ j < 9 := ⟨r.toNat, by omega, by omega⟩
      match j, hj with
      | 0, _ => exact ⟨_, _, atI_pos (by decide) rfl, fun _ => .int _, by unfold dep; omega⟩
      | 1, _ => exact ⟨_, _, atI_pos (by decide) rfl, fun _ => .int _, by unfold dep; omega⟩
      | 2, _ => exact ⟨_, _, atI_pos (by decide) rfl, fun _ => .int _, by unfold dep; omega⟩
      | 3, _ => exact ⟨_, _, atI_pos (by decide) rfl, fun _ => .int _, by unfold dep; omega⟩
      | 4, _ => exact ⟨_, _, atI_pos (by decide) rfl, fun _ => .bl _, by unfold dep; omega⟩
      | 5, _ => exact ⟨_, _, atI_pos (by decide) rfl, fun _ => .non, by unfold dep; omega⟩
      | 6, _ => exact ⟨_, _, atI_pos (by decide) rfl, fun _ => .str _, by unfold dep; omega⟩
      | 7, _ => exact ⟨_, .tuple [.int 2], atI_pos (by decide) rfl, fun _ => .tup (.cons (.int 2) .nil), by unfold dep deps deps dep; simp⟩
      | 8, _ => exact ⟨_, _, atI_pos (by decide) rfl, fun _ => .int _, by unfold dep; omega⟩
    simp [hu]
    exact kl u d G5 o5 d5 (hd _) hdep
  by_cases k1 : ch = 1
  · simp [k0, k1, g__law_spoilt_load_3]
    refine take_e d4 (by decide) (by decide) fun r G5 r0 r1 x5' d5 => ?_
    have o5 := o4.ext x5'
    obtain ⟨u, d, hu, hd, hdep⟩ : ∃ u d, atI [U.non, .str ("" : Str), .str ("abc" : Str), .int 7, .bl true, .bl false] r = some u ∧ (∀ G', D2 G' u d) ∧ itD d = none := by
      obtain ⟨j, rfl, hj⟩ : ∃ j : Nat, r = (j : Int) ∧ j < 6 := ⟨r.toNat, by omega, by omega⟩
      match j, hj with
      | 0, _ => exact ⟨_, _, atI_pos (by decide) rfl, fun _ => .non, rfl⟩
      | 1, _ => exact ⟨_, _, atI_pos (by decide) rfl, fun _ => .str _, rfl⟩
      | 2, _ => exact ⟨_, _, atI_pos (by decide) rfl, fun _ => .str _, rfl⟩
      | 3, _ => exact ⟨_, _, atI_pos (by decide) rfl, fun _ => .int _, rfl⟩
      | 4, _ => exact ⟨_, _, atI_pos (by decide) rfl, fun _ => .bl _, rfl⟩
      | 5, _ => exact ⟨_, _, atI_pos (by decide) rfl, fun _ => .bl _, rfl⟩
    simp [hu]
    exact k _ u (.int m) d G5 (oe o5) d5 (.int m) (hd _) (by unfold dep; omega) fun ds e => by rw [hdep] at e; exact nomatch e
  simp [k0, k1]
  refine mid_spec (ld := .tup (ts.map tU)) h2 hR4 d4 o4 m1 m2 a0 a1 (by omega) c1 ?_
  · rintro e G5 ⟨l', us5, ⟨y4, y5, y6, y7, rfl⟩, hR5, d5, o5⟩
    simp
    refine take_e d5 (by decide) (by decide) fun r G6 r0 r1 x6' d6 => ?_
    have hR6 := hR5.mono h2 x6'
    have o6 := o5.ext x6'
    obtain ⟨ds, hl6, dd, dts⟩ := hR6.dt h2
    simp
    by_cases kr : r = 0
    · simp [kr]
      exact k _ _ (.int m) (.list ds) G6 (oe o6) d6 (.int m) dd (by unfold dep; omega) fun es e => by cases e; omega
    · simp [kr]
      refine Wp_compD (b := 2) (G1 := G6) (fun i acc G' => Ex0 G6 G' ∧ acc.length ≤ i ∧ ∃ es, Dts 2 G6 acc es) (eq_of_wp (by simp)) dd rfl (by omega) (fun i acc G' h => h.1.ext) ⟨Ex0.push _ _, by simp, [], .nil⟩ (fun i x dx hx hdx acc G' hI hg => ?_) (fun acc G' ha hI hg => ?_)
      · obtain ⟨x6, hacc, es, hes⟩ := hI
        simp [wipeE]
        refine (tupled_spec x6 hdx).imp ?_
        rintro v G7 ⟨rfl, d', hd'⟩
        exact ⟨hg, x6.set (Nat.le_refl _) _, by simp; exact hacc, es ++ [d'], hes.app (.cons hd' .nil)⟩
      · obtain ⟨x6, hacc, es, hes⟩ := hI
        simp [Wp_tupleR hg]
        refine k _ _ (.int m) (.tuple es) G' ((oe o6).trans x6.ext) (d6.ex x6) (.int m) (.tup (hes.mono x6.ext)) (by unfold dep; omega) fun fs e => by cases e; have := hes.len; omega
end K06

set_option Elab.async false
set_option linter.all false
set_option maxRecDepth 100000
set_option maxHeartbeats 4000000
set_option autoImplicit false
namespace K06
open PySem PySem.Spec L2 FL
theorem perm_sum {a b : List Int} (h : a.Perm b) : a.sum = b.sum := by
  induction h with
  | nil => rfl
  | cons x _ ih => simp [ih]
  | swap x y l => simp; omega
  | trans _ _ h1 h2 => exact h1.trans h2
theorem perm_erase {α : Type} {l : List α} {i : Nat} {x : α} (h : l[i]? = some x) : (x :: l.eraseIdx i).Perm l := by
  obtain ⟨hi, e⟩ := List.getElem?_eq_some_iff.mp h
  rw [List.eraseIdx_eq_take_drop_succ]
  have e2 : l = l.take i ++ x :: l.drop (i + 1) := by
    have e3 := (List.take_append_drop i l).symm
    rw [List.drop_eq_getElem_cons hi, e] at e3
    exact e3
  exact (List.perm_middle.symm).trans (List.Perm.of_eq e2.symm)
/-- the order that sorted keeps -/
def leT (t s : Tri) : Bool := leU (tU t) (tU s)
theorem leT_iff (t s : Tri) : leT t s = true ↔ t.1 < s.1 ∨ t.1 = s.1 ∧ (t.2.1 < s.2.1 ∨ t.2.1 = s.2.1 ∧ t.2.2 ≤ s.2.2) := by
  obtain ⟨a, b, c⟩ := t
  obtain ⟨x, y, z⟩ := s
  show (!((decide (x < a) || (!decide (a < x) && (decide (y < b) || (!decide (b < y) && (decide (z < c) || (!decide (c < z) && false)))))))) = true ↔ _
  simp
  omega
theorem shape_tri (ld : List Tri) (i : Nat) : shapeU (ld.map tU) i = false := by
  unfold shapeU
  rw [List.any_eq_false]
  intro x hx
  obtain ⟨t, -, rfl⟩ := List.mem_map.mp hx
  match i with
  | 0 => simp [tU]
  | 1 => simp [tU]
  | 2 => simp [tU]
  | i + 3 => simp [tU]
theorem sortRes_tri (ld : List Tri) (G : Gp) : sortRes (ld.map tU) G = .ok (.ref G.length) (G ++ [.lst ((ld.mergeSort leT).map tU)]) := by
  cases ld with
  | nil => simp [sortRes, intsU]
  | cons t ld =>
    have e1 : intsU ((t :: ld).map tU) = none := by simp [tU, intsU]
    have e2 : ((t :: ld).map tU).all (okKey (shapeU ((t :: ld).map tU))) = true := by
      rw [List.all_eq_true]
      intro x hx
      obtain ⟨s, -, rfl⟩ := List.mem_map.mp hx
      have h0 := shape_tri (t :: ld) 0
      have h1 := shape_tri (t :: ld) 1
      have h2 := shape_tri (t :: ld) 2
      simp [okKey, tU, keyIU] at h0 h1 h2 ⊢
      simp [h0, h1, h2]
    unfold sortRes
    rw [e1]
    simp only [e2, if_true]
    unfold sortU
    rw [← List.map_mergeSort (r := leT) (s := leU) (f := tU) (fun a _ b _ => rfl)]
theorem Wp_sortTri {G : Gp} {l : Nat} {ld : List Tri} {P : PUt} {E : XP} (h : G[l]? = some (.lst (ld.map tU))) : Wp (bSorted [.ref l] G) P E ↔ P (.ref G.length) (G ++ [.lst ((ld.mergeSort leT).map tU)]) := by
  unfold bSorted
  simp only [show seqU G (.ref l) = some (ld.map tU) by rw [seqU_ref, h], sortRes_tri]
  exact ⟨id, id⟩
theorem sort_pw (ld : List Tri) : (ld.mergeSort leT).Pairwise fun a b => leT a b = true :=
  List.pairwise_mergeSort (fun a b c h1 h2 => by
    rw [leT_iff] at *; omega) (fun a b => by
    rw [Bool.or_eq_true, leT_iff, leT_iff]; omega) ld
/-- a load that stands: in order, and whole -/
theorem goR_sorted {m : Int} : ∀ (ts acc : List Tri) (k : Nat), OkT m ts → (∀ t s, acc.getLast? = some s → ts.head? = some t → le2 t s = false) → (ts.Pairwise fun a b => le2 b a = false) → goR m (ts.map fun t => .tuple [.int t.1, .int t.2.1, .int t.2.2]) k acc = .inr (acc ++ ts)
  | [], acc, k, _, _, _ => by simp [goR_nil]
  | t :: ts, acc, k, ok, hh, hp => by
    obtain ⟨t1, t2, t3, t4, t5, t6, t7⟩ := ok t (by simp)
    have e : tripD m (.tuple [.int t.1, .int t.2.1, .int t.2.2]) = some t := by
      show tripL m [.int t.1, .int t.2.1, .int t.2.2] = some t
      rw [tripL_int, if_pos ⟨t1, t2, t3, t4, t5, t6, t7⟩]
    rw [List.map_cons, goR_some e]
    have hle : lastLe acc t = false := by
      unfold lastLe
      cases q : acc.getLast? with
      | none => rfl
      | some s => exact hh t s q rfl
    rw [if_neg (by simp [hle])]
    have hp' := List.pairwise_cons.mp hp
    rw [goR_sorted ts (acc ++ [t]) (k + 1) (fun x hx => ok x (by simp [hx])) (fun t' s hs ht' => ?_) hp'.2]
    · simp
    · simp at hs
      subst hs
      exact hp'.1 t' (List.mem_of_mem_head? ht')
theorem le2_iff (t s : Tri) : le2 t s = true ↔ t.1 < s.1 ∨ t.1 = s.1 ∧ t.2.1 ≤ s.2.1 := by
  unfold le2 leI leI leI
  by_cases h : t.1 = s.1
  · rw [if_pos h]
    by_cases h2 : t.2.1 = s.2.1
    · rw [if_pos h2]; simp; omega
    · rw [if_neg h2]; simp; omega
  · rw [if_neg h]; simp; omega
/-- what a drawn load is -/
structure Ldd (m : Int) (ld : List Tri) : Prop where
  ok : OkT m ld
  nd : (ld.map fun t => (t.1, t.2.1)).Nodup
  tot : totl ld ≤ 400
theorem tot_ge {m : Int} {ld : List Tri} (ok : OkT m ld) : (ld.length : Int) ≤ totl ld := by
  unfold totl
  induction ld with
  | nil => simp
  | cons t ld ih =>
    have := ih fun x hx => ok x (by simp [hx])
    have := ok t (by simp)
    simp at *
    omega
theorem ldd_verd {m : Int} {ld : List Tri} (m1 : 2 ≤ m) (m2 : m ≤ 12) (h : Ldd m ld) : verd (.int m) (triD (ld.mergeSort leT)) = .good m (ld.mergeSort leT) := by
  have pm := List.mergeSort_perm ld leT
  have ok : OkT m (ld.mergeSort leT) := fun t ht => h.ok t (pm.mem_iff.mp ht)
  have nd : ((ld.mergeSort leT).map fun t => (t.1, t.2.1)).Nodup := (pm.map _).nodup_iff.mpr h.nd
  have pw := sort_pw ld
  have tot : totl (ld.mergeSort leT) ≤ 400 := by
    have := perm_sum (pm.map (·.2.2))
    unfold totl
    have := h.tot
    unfold totl at this
    omega
  have st : (ld.mergeSort leT).Pairwise fun a b => le2 b a = false := by
    have nd2 := List.pairwise_map.mp nd
    refine (pw.and nd2).imp fun {a b} hab => ?_
    obtain ⟨h1, h2⟩ := hab
    rw [leT_iff] at h1
    cases q : le2 b a with
    | false => rfl
    | true =>
      rw [le2_iff] at q
      exfalso
      apply h2
      have e1 : a.1 = b.1 := by omega
      have e2 : a.2.1 = b.2.1 := by omega
      rw [e1, e2]
  have g := goR_sorted (ld.mergeSort leT) [] 0 ok (fun t s hs _ => by simp at hs) st
  unfold verd
  show (if 2 ≤ m ∧ m ≤ 12 then _ else _) = _
  rw [if_pos ⟨m1, m2⟩]
  show (match goR m ((ld.mergeSort leT).map fun t => .tuple [.int t.1, .int t.2.1, .int t.2.2]) 0 [] with
        | .inl k => Vd.load k
        | .inr ts => if 400 < totl ts then .many (totl ts) else .good m ts) = _
  rw [g]
  show (if 400 < totl ([] ++ ld.mergeSort leT) then _ else _) = _
  rw [if_neg (by simp; omega)]
  rfl
end K06

set_option Elab.async false
set_option linter.all false
set_option maxRecDepth 100000
set_option maxHeartbeats 4000000
set_option autoImplicit false
namespace K06
open PySem PySem.Spec L2 FL
theorem Wp_rgL1 {G : Gp} {m : Int} {P : PUt} {E : XP} (h1 : -1000000 ≤ m) (h2 : m < 1000000) : Wp (gRgL1 (.int m) G) P E ↔ P (.ref G.length) (G ++ [.lst ((rgI 0 m).map .int)]) := by
  unfold gRgL1
  rw [gRgL_ok (by decide) (by decide) h1 h2]
  exact ⟨id, id⟩
structure Nms (m : Int) (ns : List Int) : Prop where
  len : ns.length = m.toNat
  nd : ns.Nodup
  rg : ∀ x ∈ ns, 0 ≤ x ∧ x < m
theorem nms_of {m : Int} {ns : List Int} (h : ns.Perm (rgI 0 m)) : Nms m ns := by
  refine ⟨?_, ?_, fun x hx => ?_⟩
  · rw [h.length_eq]; simp [rgI]
  · rw [h.nodup_iff]
    unfold rgI
    rw [List.Nodup, List.pairwise_map]
    exact (List.nodup_range (n := (m - 0).toNat)).imp fun hab e => hab (by omega)
  · have := h.mem_iff.mp hx
    simp [rgI] at this
    obtain ⟨i, hi, rfl⟩ := this
    omega
theorem names_spec {G : Gp} {m : Int} {Q : Qs} (hD : Dr G) (m1 : 2 ≤ m) (m2 : m ≤ 12) (k : ∀ ns G', Ext 2 G G' → Dr G' → Nms m ns → G'[G.length + 1]? = some (.lst (ns.map .int)) → Q.nx [some (.ref 2), some (.int m), some (.ref G.length), some (.ref (G.length + 1)), none, none, none, none, none, none, none] G') :
    Ws (sAsg (eComp [10] (iOfs (aCons (eVar 1) aNil) kRng1) (gNm 10) tYesB (eMeth mPopAt (eVar 2) (aCons (eCall F__law_take (aCons (eVar 0) (aCons (eCall bLen (aCons (eVar 2) aNil)) aNil))) aNil))) (gNm 3) [some (.ref 2), some (.int m), some (.ref G.length), none, none, none, none, none, none, none, none] (G ++ [.lst ((rgI 0 m).map .int)])) Q := by
  simp
  have h2 := hD.len
  refine Wp_compR (j := m) (G1 := G ++ [.lst ((rgI 0 m).map .int)]) (fun i acc G' => ∃ ns rest : List Int, acc = ns.map .int ∧ ns.length = i ∧ (ns ++ rest).Perm (rgI 0 m) ∧ G'[G.length]? = some (.lst (rest.map .int)) ∧ Ext 2 G G' ∧ Dr G') (eq_of_wpL (by simp)) (by omega) (by omega) ?_ ?_ ?_
  · refine ⟨[], rgI 0 m, rfl, rfl, List.Perm.refl _, ?_, ?_, hD.ex ?_⟩
    · simp
    · rw [List.append_assoc]; exact (Ex0.app _ _).ext
    · rw [List.append_assoc]; exact Ex0.app _ _
  · rintro i hi acc G' ⟨ns, rest, rfl, hl, hp, hg, x, d⟩ hacc
    rw [show (G ++ [OU.lst ((rgI 0 m).map .int)]).length = G.length + 1 by simp] at hacc ⊢
    have hlen := hp.length_eq
    simp [rgI] at hlen
    have hrl : 0 < rest.length := by omega
    simp [wipeE, isLst_r hg, Wp_lenR hg]
    refine take_e d (by omega) (by omega) fun r G2 r0 r1 x2 d2 => ?_
    have hg2 := x2.at_ h2 hg
    have hacc2 := x2.at_ (by omega) hacc
    have hr : r.toNat < rest.length := by omega
    have hu : (rest.map U.int)[r.toNat]? = some (.int rest[r.toNat]) := by simp [hr]
    simp [Wp_popAtI hg2 r0 (by omega) hu]
    refine ⟨hacc2, ns ++ [rest[r.toNat]], by simp, by simp; exact hl, rest.eraseIdx r.toNat, ?_, ?_, ?_, ?_⟩
    · have := perm_erase (List.getElem?_eq_getElem hr)
      refine List.Perm.trans ?_ hp
      rw [List.append_assoc]
      exact List.Perm.append_left ns this
    · rw [set_get hg2]
      simp [List.eraseIdx_eq_take_drop_succ]
    · exact ((x.trans x2).set (.inl (Nat.le_refl _)) _).set (.inl (by omega)) _
    · exact (d2.set h2 _).set (by omega) _
  · rintro acc G' ha ⟨ns, rest, rfl, hl, hp, hg, x, d⟩ hacc
    rw [show (G ++ [OU.lst ((rgI 0 m).map .int)]).length = G.length + 1 by simp] at hacc ⊢
    have hlen := hp.length_eq
    simp [rgI] at hlen
    have hr : rest = [] := List.length_eq_zero_iff.mp (by omega)
    subst hr
    simp
    exact k ns G' x d (nms_of (by simpa using hp)) hacc
theorem Nms.get {m : Int} {ns : List Int} (h : Nms m ns) {i : Nat} (hi : i < m.toNat) : ∃ x, ns[i]? = some x ∧ atI (ns.map U.int) (i : Int) = some (.int x) ∧ 0 ≤ x ∧ x < m := by
  have hl : i < ns.length := by rw [h.len]; exact hi
  refine ⟨ns[i], List.getElem?_eq_getElem hl, atI_pos (by omega) (by simp [hl]), h.rg _ (List.getElem_mem hl)⟩
theorem Nms.inj {m : Int} {ns : List Int} (h : Nms m ns) {i j : Nat} {x : Int} (hi : ns[i]? = some x) (hj : ns[j]? = some x) : i = j :=
  (List.getElem?_inj (List.getElem?_eq_some_iff.mp hi).1 h.nd).mp (hi.trans hj.symm)
/-- the load so far -/
structure LdS (m : Int) (ns : List Int) (a b : Nat) (ld : List Tri) (room : Int) : Prop where
  l : Ldd m ld
  rm : room = 400 - totl ld
  src : ∀ t ∈ ld, ∃ a' b' : Nat, (a' < a ∨ a' = a ∧ b' < b) ∧ ns[a']? = some t.1 ∧ ns[b']? = some t.2.1
theorem LdS.next {m : Int} {ns : List Int} {a b a' b' : Nat} {ld : List Tri} {room : Int} (h : LdS m ns a b ld room) (k : a < a' ∨ a = a' ∧ b ≤ b') : LdS m ns a' b' ld room := ⟨h.l, h.rm, fun t ht => by
  obtain ⟨p, q, h1, h2⟩ := h.src t ht
  exact ⟨p, q, by omega, h2⟩⟩
theorem LdS.add {m : Int} {ns : List Int} {a b : Nat} {ld : List Tri} {room n x y : Int} (h : LdS m ns a b ld room) (N : Nms m ns) (hab : a ≠ b) (hx : ns[a]? = some x) (hy : ns[b]? = some y) (n1 : 1 ≤ n) (n2 : n ≤ 200) (n3 : n ≤ room) : LdS m ns a (b + 1) (ld ++ [(x, y, n)]) (room - n) := by
  have rx := N.rg x (List.mem_of_getElem? hx)
  have ry := N.rg y (List.mem_of_getElem? hy)
  have ne : x ≠ y := fun e => hab (by subst e; exact N.inj hx hy)
  refine ⟨⟨fun t ht => ?_, ?_, ?_⟩, ?_, fun t ht => ?_⟩
  · rcases List.mem_append.mp ht with ht | ht
    · exact h.l.ok t ht
    · rw [List.mem_singleton.mp ht]
      exact ⟨rx.1, rx.2, ry.1, ry.2, ne, n1, n2⟩
  · rw [List.map_append, List.nodup_append]
    refine ⟨h.l.nd, by simp, fun p hp q hq e => ?_⟩
    simp at hq
    obtain ⟨t, ht, rfl⟩ := List.mem_map.mp hp
    subst hq
    obtain ⟨a', b', h1, h2, h3⟩ := h.src t ht
    have e1 : t.1 = x := congrArg Prod.fst e
    have e2 : t.2.1 = y := congrArg Prod.snd e
    rw [e1] at h2
    rw [e2] at h3
    have := N.inj h2 hx
    have := N.inj h3 hy
    omega
  · rw [totl_app]
    have := h.rm
    show _ + n ≤ 400
    omega
  · rw [totl_app]
    have := h.rm
    show _ = 400 - (_ + n)
    omega
  · rcases List.mem_append.mp ht with ht | ht
    · obtain ⟨a', b', h1, h2⟩ := h.src t ht
      exact ⟨a', b', by omega, h2⟩
    · rw [List.mem_singleton.mp ht]
      exact ⟨a, b, by omega, hx, hy⟩
def LI (G : Gp) (m : Int) (lf N L : Nat) (mode : Int) (ns : List Int) (x7 : Option U) (a b : Nat) (e : Ev) (G' : Gp) : Prop := ∃ ld room, (∃ x8 x9, e = [some (.ref 2), some (.int m), some (.ref lf), some (.ref N), some (.int mode), some (.int room), some (.ref L), x7, x8, x9, none]) ∧ Ext 2 G G' ∧ Dr G' ∧ G'[N]? = some (.lst (ns.map .int)) ∧ G'[L]? = some (.lst (ld.map tU)) ∧ LdS m ns a b ld room
theorem inner_spec {G : Gp} {m mode : Int} {lf N L a b : Nat} {ns : List Int} {e : Ev} {G' : Gp} {Q : Qs} {N0 : Ev → Gp → Prop} (h2 : 2 < G.length) (hN : 2 < N) (hL : G.length ≤ L) (hNL : N ≠ L) (m1 : 2 ≤ m) (m2 : m ≤ 12) (o0 : 0 ≤ mode) (o1 : mode < 6) (hns : Nms m ns) (ha : a < m.toNat) (hb : b < m.toNat) (h : LI G m lf N L mode ns (some (.int (a : Int))) a b e G')
    (k : ∀ e G', LI G m lf N L mode ns (some (.int (a : Int))) a (b + 1) e G' → N0 e G') : Wp (gNm 8 (.int (b : Nat)) e G') (KTn g__law_drawn_load_3 Q N0) (KX e Q) := by
  obtain ⟨ld, room, ⟨x8, x9, rfl⟩, x, d, gN, gL, S⟩ := h
  have skip : N0 [some (.ref 2), some (.int m), some (.ref lf), some (.ref N), some (.int mode), some (.int room), some (.ref L), some (.int (a : Int)), some (.int (b : Int)), x9, none] G' := k _ _ ⟨ld, room, ⟨_, _, rfl⟩, x, d, gN, gL, S.next (.inr ⟨rfl, by omega⟩)⟩
  simp
  unfold g__law_drawn_load_3
  simp
  by_cases c : (a : Int) = b
  · simp [c]
    rw [c] at skip
    exact skip
  · obtain ⟨q, hq, q1, q2⟩ : ∃ q : Int, atI [U.int m, .int 2, .int m, .int 2, .int 1, .int 3] mode = some (.int q) ∧ 0 < q ∧ q < 1000 := by
      obtain ⟨j, rfl, hj⟩ : ∃ j : Nat, mode = (j : Int) ∧ j < 6 := ⟨mode.toNat, by omega, by omega⟩
      match j, hj with
      | 0, _ => exact ⟨m, atI_pos (by decide) rfl, by omega, by omega⟩
      | 1, _ => exact ⟨2, atI_pos (by decide) rfl, by omega, by omega⟩
      | 2, _ => exact ⟨m, atI_pos (by decide) rfl, by omega, by omega⟩
      | 3, _ => exact ⟨2, atI_pos (by decide) rfl, by omega, by omega⟩
      | 4, _ => exact ⟨1, atI_pos (by decide) rfl, by omega, by omega⟩
      | 5, _ => exact ⟨3, atI_pos (by decide) rfl, by omega, by omega⟩
    obtain ⟨v, hv, v1, v2⟩ : ∃ v : Int, atI [U.int 9, .int 3, .int 200, .int 60, .int 1, .int 2] mode = some (.int v) ∧ 0 < v ∧ v ≤ 200 := by
      obtain ⟨j, rfl, hj⟩ : ∃ j : Nat, mode = (j : Int) ∧ j < 6 := ⟨mode.toNat, by omega, by omega⟩
      match j, hj with
      | 0, _ => exact ⟨_, atI_pos (by decide) rfl, by omega, by omega⟩
      | 1, _ => exact ⟨_, atI_pos (by decide) rfl, by omega, by omega⟩
      | 2, _ => exact ⟨_, atI_pos (by decide) rfl, by omega, by omega⟩
      | 3, _ => exact ⟨_, atI_pos (by decide) rfl, by omega, by omega⟩
      | 4, _ => exact ⟨_, atI_pos (by decide) rfl, by omega, by omega⟩
      | 5, _ => exact ⟨_, atI_pos (by decide) rfl, by omega, by omega⟩
    simp [c, hq]
    refine take_e d (by omega) (by omega) fun r G1 r0 r1 x1 d1 => ?_
    have gN1 := x1.at_ hN gN
    have gL1 := x1.at_ (by omega) gL
    simp
    by_cases c2 : r = 0
    · simp [c2]
      unfold g__law_drawn_load_2
      simp [hv]
      refine take_e d1 (by omega) (by omega) fun s G2 s0 s1 x2 d2 => ?_
      have gN2 := x2.at_ hN gN1
      have gL2 := x2.at_ (by omega) gL1
      simp
      by_cases c3 : 0 < min (1 + s) room
      · have c3' : 0 < 1 + s ∧ 0 < room := by omega
        obtain ⟨xa, ha1, ha2, ha3⟩ := hns.get ha
        obtain ⟨xb, hb1, hb2, hb3⟩ := hns.get hb
        have S' := S.add hns (by omega) ha1 hb1 (n := min (1 + s) room) (by omega) (by omega) (by omega)
        have hlen : ld.length < 16777216 := by
          have := tot_ge S.l.ok
          have := S.l.tot
          omega
        simp [c3, g__law_drawn_load_1, isLst_r gL2, Wp_idxR gN2, ha2, hb2, Wp_append gL2, hlen]
        refine k _ _ ⟨ld ++ [(xa, xb, min (1 + s) room)], room - min (1 + s) room, ⟨_, _, rfl⟩, ((x.trans x1).trans x2).set (.inl hL) _, d2.set (by omega) _, ?_, ?_, S'⟩
        · rw [List.getElem?_set_ne (Ne.symm hNL)]; exact gN2
        · rw [set_get gL2]; simp [tU]
      · have c3' : ¬ (0 < 1 + s ∧ 0 < room) := by omega
        simp [c3]
        exact k _ _ ⟨ld, room, ⟨_, _, rfl⟩, (x.trans x1).trans x2, d2, gN2, gL2, S.next (.inr ⟨rfl, by omega⟩)⟩
    · simp [c2]
      exact k _ _ ⟨ld, room, ⟨_, _, rfl⟩, x.trans x1, d1, gN1, gL1, S.next (.inr ⟨rfl, by omega⟩)⟩
theorem ldd_nil (m : Int) : Ldd m [] := ⟨fun t ht => by simp at ht, by simp, by unfold totl; simp⟩
theorem drawn_load_spec {G : Gp} {m : Int} {P : PUt} {E : XP} (hD : Dr G) (m1 : 2 ≤ m) (m2 : m ≤ 12) (k : ∀ ld G', Ext 2 G G' → Dr G' → Ldd m ld → P (.tup ((ld.mergeSort leT).map tU)) G') : Wp (F__law_drawn_load [.ref 2, .int m] G) P E := by
  rw [run__law_drawn_load, Wp_fin]
  unfold g__law_drawn_load
  have h2 := hD.len
  refine Ws_sq (fun e G1 => e = [some (.ref 2), some (.int m), some (.ref G.length), none, none, none, none, none, none, none, none] ∧ G1 = G ++ [.lst ((rgI 0 m).map .int)]) ?_ ?_
  · simp [Wp_rgL1 (show (-1000000 : Int) ≤ m by omega) (show m < 1000000 by omega)]
  rintro e G1 ⟨rfl, rfl⟩
  refine Ws_sq (fun e G2 => ∃ ns, e = [some (.ref 2), some (.int m), some (.ref G.length), some (.ref (G.length + 1)), none, none, none, none, none, none, none] ∧ Ext 2 G G2 ∧ Dr G2 ∧ Nms m ns ∧ G2[G.length + 1]? = some (.lst (ns.map .int))) (names_spec hD m1 m2 fun ns G' a b c d => ⟨ns, rfl, a, b, c, d⟩) ?_
  rintro e G2 ⟨ns, rfl, x, d2, hns, hN⟩
  simp
  refine take_e d2 (by decide) (by decide) fun mode G3 o0 o1 x3 d3 => ?_
  have hN3 := x3.at_ (by omega) hN
  have nl := lt_of_at hN3
  have x4 := Ex0.push G3 (OU.lst [])
  have xx := (x.trans x3)
  simp
  refine Ws_rng1 (j := m) (G1 := G3 ++ [.lst []]) (fun i e G' => ∃ x7, LI G m G.length (G.length + 1) G3.length mode ns x7 i 0 e G') (eq_of_wpL (by simp)) (by omega) (by omega) ?_ ?_ ?_
  · exact ⟨none, [], 400, ⟨none, none, rfl⟩, xx.trans x4.ext, d3.ex x4, x4.at_ hN3, push_at _ _, ⟨ldd_nil m, by unfold totl; simp, fun t ht => by simp at ht⟩⟩
  · rintro i hi e G' ⟨x7, ld, room, ⟨x8, x9, rfl⟩, xa, da, gN, gL, S⟩
    simp
    unfold g__law_drawn_load_4
    refine Ws_rng1 (j := m) (G1 := G') (fun b e G' => LI G m G.length (G.length + 1) G3.length mode ns (some (.int (i : Int))) i b e G') (eq_of_wpL (by simp)) (by omega) (by omega) ?_ ?_ ?_
    · exact ⟨ld, room, ⟨_, _, rfl⟩, xa, da, gN, gL, S⟩
    · intro b hb e G4 h
      exact inner_spec h2 (by omega) xx.1 (by omega) m1 m2 o0 o1 hns hi hb h (fun e G' h => h)
    · rintro e G4 ⟨ld, room, ⟨x8, x9, rfl⟩, xa, da, gN, gL, S⟩
      exact ⟨_, ld, room, ⟨_, _, rfl⟩, xa, da, gN, gL, S.next (.inl (by omega))⟩
  · rintro e G4 ⟨x7, ld, room, ⟨x8, x9, rfl⟩, xa, da, gN, gL, S⟩
    simp [Wp_sortTri gL, Wp_tupleR (push_at _ _)]
    exact k ld _ (xa.trans (Ext.push _ _)) (da.ex (Ex0.push _ _)) S.l
end K06

set_option Elab.async false
set_option linter.all false
set_option maxRecDepth 100000
set_option maxHeartbeats 4000000
set_option autoImplicit false
namespace K06
open PySem PySem.Spec L2 FL
theorem source_spec (ns : List Int) : Wp (F__law_source [.rl (ns.map .int)] []) (fun u G' => u = .ref 2 ∧ Dr G') noX := by
  rw [run__law_source, Wp_fin]
  unfold g__law_source
  simp
  obtain ⟨cs, hcs⟩ : ∃ cs : List Int, cs = ns.take 63 := ⟨_, rfl⟩
  have hc : cutU (ns.map U.int) none (some 63) = cs.map .int := by rw [cutU_to _ (by decide), hcs]; simp
  refine Ws_ref (l := 1) (xs := cs.map .int) (G1 := [.lst [], .lst (cs.map .int)]) (fun i e G' => ∃ (st : Int) (gs : List Int) (x3 : Option U), 0 ≤ st ∧ st < 2305843009213693951 ∧ gs.length ≤ i ∧ e = [some (.rl (ns.map .int)), some (.int st), some (.ref 0), x3] ∧ G' = [.lst (gs.map .int), .lst (cs.map .int)]) (eq_of_wp (by simp [hc])) rfl ?_ ?_ ?_ ?_
  · rintro i e G' ⟨st, gs, x3, -, -, -, -, rfl⟩
    rfl
  · exact ⟨20261119, [], none, by decide, by decide, by simp, rfl, rfl⟩
  · rintro i hi e G' ⟨st, gs, x3, s0, s1, gl, rfl, rfl⟩
    have hi' : i < cs.length := by simpa using hi
    have hi2 : i < 63 := by rw [hcs] at hi'; simp at hi'; omega
    have mo : mulOk st st = true := mulOk_1 (by omega) (by omega)
    have mo2 : mulOk cs[i] 48271 = true := mulOk_2 (by decide) (by decide)
    simp only [List.getElem_map]
    generalize cs[i] = cell at mo2
    generalize hst : (st * st + cell * 48271 + 7) % 2305843009213693951 = st'
    have b0 : 0 ≤ st' := by rw [← hst]; exact Int.emod_nonneg _ (by decide)
    have b1 : st' < 2305843009213693951 := by rw [← hst]; exact Int.emod_lt_of_pos _ (by decide)
    simp
    unfold g__law_source_2
    simp [mo, mo2, hst]
    by_cases c : (1000000000000000000 : Int) ≤ cell
    · have h0 : ([OU.lst (gs.map .int), OU.lst (cs.map .int)] : Gp)[0]? = some (.lst (gs.map .int)) := rfl
      simp [c, g__law_source_1, isLst_r h0, Wp_append h0]
      exact ⟨by omega, st', b0, b1, gs ++ [cell], by simp; omega, rfl, by simp⟩
    · simp [c]
      exact ⟨st', b0, b1, gs, by omega, rfl, rfl⟩
  · rintro e G' ⟨st, gs, x3, s0, s1, gl, rfl, rfl⟩
    simp
    exact ⟨0, st, 0, gs, s0, s1, rfl, rfl⟩
theorem machines_spec {G : Gp} {P : PUt} {E : XP} (hD : Dr G) (k : ∀ m G', 2 ≤ m → m ≤ 12 → Ext 2 G G' → Dr G' → P (.int m) G') : Wp (F__law_machines [.ref 2] G) P E := by
  rw [run__law_machines, Wp_fin]
  unfold g__law_machines
  simp
  refine take_e hD (by decide) (by decide) fun r G1 r0 r1 x1 d1 => ?_
  obtain ⟨v, hv, v1, v2⟩ : ∃ v : Int, atI [U.int 3, .int 4, .int 11] r = some (.int v) ∧ 0 < v ∧ v ≤ 11 := by
    obtain ⟨j, rfl, hj⟩ : ∃ j : Nat, r = (j : Int) ∧ j < 3 := ⟨r.toNat, by omega, by omega⟩
    match j, hj with
    | 0, _ => exact ⟨_, atI_pos (by decide) rfl, by omega, by omega⟩
    | 1, _ => exact ⟨_, atI_pos (by decide) rfl, by omega, by omega⟩
    | 2, _ => exact ⟨_, atI_pos (by decide) rfl, by omega, by omega⟩
  simp [hv]
  refine take_e d1 (by omega) (by omega) fun q G2 q0 q1 x2 d2 => ?_
  simp
  exact k _ _ (by omega) (by omega) (x1.trans x2) d2
def handD (ts : List Tri) : PyData := .list (ts.map fun t => .list [.int t.1, .int t.2.1, .int t.2.2])
theorem goR_congr {m : Int} : ∀ {ds es : List PyData} (k : Nat) (acc : List Tri), ds.map (tripD m) = es.map (tripD m) → goR m ds k acc = goR m es k acc
  | [], [], k, acc, _ => rfl
  | [], e :: es, k, acc, h => by simp at h
  | d :: ds, [], k, acc, h => by simp at h
  | d :: ds, e :: es, k, acc, h => by
    simp only [List.map_cons, List.cons.injEq] at h
    cases q : tripD m d with
    | none => rw [goR_none q, goR_none (h.1.symm.trans q)]
    | some t => rw [goR_some q, goR_some (h.1.symm.trans q), goR_congr (k + 1) (acc ++ [t]) h.2]
theorem verd_hand {m : Int} {ts : List Tri} (h : verd (.int m) (triD ts) = .good m ts) : verd (.int m) (handD ts) = .good m ts := by
  rw [← h]
  have e : goR m (ts.map fun t => .list [.int t.1, .int t.2.1, .int t.2.2]) 0 [] = goR m (ts.map fun t => .tuple [.int t.1, .int t.2.1, .int t.2.2]) 0 [] := goR_congr 0 [] (by
    rw [List.map_map, List.map_map]
    rfl)
  show (if 2 ≤ m ∧ m ≤ 12 then (match goR m (ts.map fun t => .list [.int t.1, .int t.2.1, .int t.2.2]) 0 [] with
        | .inl k => Vd.load k
        | .inr ts => if 400 < totl ts then .many (totl ts) else .good m ts) else Vd.number) = _
  rw [e]
  rfl
theorem hand_spec {G : Gp} {a0 a1 a2 x4 : Option U} {ts : List Tri} {P : PUt} {E : XP} (h2 : 2 < G.length) (hl : ts.length < 1000) (k : ∀ G', Ex0 G G' → D2 G' (.ref G.length) (handD ts) → P (.ref G.length) G') :
    Wp (eComp [11] (iOf (eVar 3) kSeq) (gNm 11) tYesB (eCall bList (aCons (eVar 11) aNil)) [a0, a1, a2, some (.tup (ts.map tU)), x4, none, none, none, none, none, none, none] G) P E := by
  obtain ⟨src, h1, h2', h3⟩ := kSeq_of (G := G) (u := .tup (ts.map tU)) (us := ts.map tU) rfl (by simp)
  refine Wp_comp (xs := ts.map tU) (fun i acc G' => Ex0 G G' ∧ Dts G.length G' acc ((ts.take i).map fun t => .list [.int t.1, .int t.2.1, .int t.2.2])) (iOf_ok (eq_of_wp (by simp)) h1) ⟨h2', fun i acc G' hi h => h3 i G' hi h.1⟩ (by simp; omega) ⟨Ex0.push _ _, by simpa using Dts.nil⟩ (fun i hi acc G' hI hg => ?_) (fun acc G' ha hI hg => ?_)
  · obtain ⟨x, hd⟩ := hI
    have hi' : i < ts.length := by simpa using hi
    have hlt := lt_of_at hg
    have tk : ts.take (i + 1) = ts.take i ++ [ts[i]] := by rw [List.take_succ_eq_append_getElem hi']
    simp [tU, wipeE]
    refine ⟨by rw [List.getElem?_append_left hlt]; exact hg, (x.trans (Ex0.push G' _)).set (Nat.le_refl _) _, ?_⟩
    have e1 : Ext G.length G' ((G' ++ [OU.lst [.int ts[i].1, .int ts[i].2.1, .int ts[i].2.2]]).set G.length (.lst (acc ++ [.ref G'.length]))) := (Ext.push G' _).set (.inr (Nat.le_refl _)) _
    have hn : ((G' ++ [OU.lst [.int ts[i].1, .int ts[i].2.1, .int ts[i].2.2]]).set G.length (.lst (acc ++ [.ref G'.length])))[G'.length]? = some (.lst [.int ts[i].1, .int ts[i].2.1, .int ts[i].2.2]) := by
      rw [List.getElem?_set_ne (by omega)]; exact push_at _ _
    have := (hd.mono e1).app (.cons (.lst (b := G.length) (ds := [.int ts[i].1, .int ts[i].2.1, .int ts[i].2.2]) hlt hn (.cons (.int _) (.cons (.int _) (.cons (.int _) .nil)))) .nil)
    rw [← List.map_take, tk, List.map_append]
    exact this
  · obtain ⟨x, hd⟩ := hI
    refine k G' x ?_
    rw [List.length_map, List.take_length] at hd
    exact .lst h2 hg (hd.weak (by omega))
/-- the state between the turns -/
def LS (ns : List Int) (m : Int) (ts : List Tri) (h : U) (e : Ev) (G : Gp) : Prop := Dr G ∧ ∃ x5 x6 x7 x8 x9 x10, e = [some (.rl (ns.map .int)), some (.ref 2), some (.int m), some (.tup (ts.map tU)), some h, x5, x6, x7, x8, x9, x10, none]
theorem turn3 {ns : List Int} {m : Int} {ts : List Tri} {h : U} {i : Nat} {e : Ev} {G : Gp} {Q : Qs} (m1 : 2 ≤ m) (m2 : m ≤ 12) (hv : verd (.int m) (triD ts) = .good m ts) (hlen : ts.length < 1000) (hI : LS ns m ts h e G) : Wp (gNm 5 (.int (i : Nat)) e G) (KTn g_law_2 Q (LS ns m ts h)) (KX e Q) := by
  obtain ⟨d, x5, x6, x7, x8, x9, x10, rfl⟩ := hI
  simp
  unfold g_law_2
  simp
  refine spoilt_spec d m1 m2 fun u du G1 x1 d1 hu ho hdep => ?_
  simp
  have hl : ∀ G', D2 G' (.tup (ts.map tU)) (triD ts) := fun G' => tri_dt G' ts
  refine Ws_tup (xs := [.str "said", .str "got"]) (G1 := G1) (fun i e G' => Ex0 G1 G' ∧ Dr G' ∧ ∃ x5 x7, e = [some (.rl (ns.map .int)), some (.ref 2), some (.int m), some (.tup (ts.map tU)), some h, x5, some u, x7, x8, x9, x10, none]) (eq_of_wp (by simp)) ⟨Ex0.refl _, d1, _, _, rfl⟩ ?_ ?_
  · rintro j hj e G2 ⟨x2, d2, x5, x7, rfl⟩
    obtain ⟨w, hw, hwd⟩ : ∃ w : Wd, ([.str "said", .str "got"] : List U)[j] = .str w.s ∧ toldD w (.int m) (triD ts) du = .tuple [.str ("machine" : Str), du] := by
      match j, hj with
      | 0, _ => exact ⟨.said, rfl, by unfold toldD; rw [hv]; exact machD_out ho⟩
      | 1, _ => exact ⟨.got, rfl, by unfold toldD; rw [hv]; exact machD_out ho⟩
    rw [hw]
    simp
    unfold g_law_1
    simp
    have hu2 := hu.mono x2.ext
    refine (told_spec w (.int m) (hl G2) hu2 d2.len (fun ds e => by cases e; simp; omega)).nox ?_
    rintro v G3 ⟨x3, dv⟩
    rw [hwd] at dv
    simp
    refine (same_true 40 _ v _ G3 (dep_t2 _ _ (by omega)) (by decide) dv (Dt.pair (hu2.mono x3.ext))).nox ?_
    rintro _ G4 ⟨rfl, x4⟩
    simp
    exact ⟨(x2.trans x3).trans x4, (d2.ex x3).ex x4⟩
  · rintro e G2 ⟨x2, d2, x5, x7, rfl⟩
    simp
    exact ⟨d2, _, _, _, _, _, _, rfl⟩
theorem dt_tup {b : Nat} {G : Gp} {u : U} {ds : List PyData} (h : Dt b G u (.tuple ds)) : ∃ us, u = .tup us := by
  cases h with
  | tup h => exact ⟨_, rfl⟩
theorem turn6 {ns : List Int} {m : Int} {ts : List Tri} {h : U} {i : Nat} {e : Ev} {G : Gp} {Q : Qs} (m1 : 2 ≤ m) (m2 : m ≤ 12) (hlen : ts.length ≤ 400) (hI : LS ns m ts h e G) : Wp (gNm 5 (.int (i : Nat)) e G) (KTn g_law_6 Q (LS ns m ts h)) (KX e Q) := by
  obtain ⟨d, x5, x6, x7, x8, x9, x10, rfl⟩ := hI
  simp
  unfold g_law_6
  simp
  refine spoilt_load_spec d m1 m2 hlen fun um ul dm dl G1 x1 d1 hm hl hdm hb => ?_
  simp
  refine (fault_spec hm hl hb).nox ?_
  rintro w G2 ⟨x2, hw⟩
  have d2 := d1.ex x2
  have hm2 := hm.mono x2.ext
  have hl2 := hl.mono x2.ext
  simp
  have bad : ∀ us, w = .tup us → (∀ m' ts', verd dm dl ≠ .good m' ts') → dep (faultD dm (verd dm dl)) < 40 → Ws (g_law_5 [some (.rl (ns.map .int)), some (.ref 2), some (.int m), some (.tup (ts.map tU)), some h, some (.int (i : Int)), x6, x7, some um, some ul, some w, none] G2) ⟨LS ns m ts h, Q.rt, Q.nx, LS ns m ts h, Q.ex⟩ := by
    rintro us rfl hne hdep
    unfold g_law_5
    have go : ∀ (uu : U) (du : PyData) (G3 : Gp), Dr G3 → Ext 2 G2 G3 → D2 G3 uu du → Ws (sIf (tNotB (bVal (eCall F__law_all (aCons (eVar 8) (aCons (eVar 9) (aCons (eVar 6) (aCons (eVar 10) aNil))))))) (sRet (eC (.bl false))) sNil [some (.rl (ns.map .int)), some (.ref 2), some (.int m), some (.tup (ts.map tU)), some h, some (.int (i : Int)), some uu, x7, some um, some ul, some (.tup us), none] G3) ⟨LS ns m ts h, Q.rt, Q.nx, LS ns m ts h, Q.ex⟩ := by
      intro uu du G3 d3 x3 hu
      simp
      refine (all_spec (hm2.mono x3) (hl2.mono x3) hu d3.len hb (hw.mono x3) (fun w => toldD_bad hne) hdep).nox ?_
      rintro _ G4 ⟨x4, rfl⟩
      simp
      exact ⟨d3.ex x4, _, _, _, _, _, _, rfl⟩
    simp
    refine take_e d2 (by decide) (by decide) fun r G3 r0 r1 x3 d3 => ?_
    simp
    by_cases c : r = 0
    · simp [c, g_law_3]
      refine spoilt_spec d3 m1 m2 fun uu du G4 x4 d4 hu ho hdep => ?_
      have := go uu du G4 d4 (x3.trans x4) hu
      simp at this ⊢
      exact this
    · simp [c]
      have := go (.int 0) (.int 0) G3 d3 x3 (.int 0)
      simp at this
      exact this
  cases hv : verd dm dl with
  | good m' ts' =>
    rw [hv] at hw
    have hw : D2 G2 w .none := hw
    have hn : w = .non := by cases hw; rfl
    subst hn
    obtain ⟨rfl, -⟩ := verd_good hv
    cases D.int_eq hm
    simp
    unfold g_law_4
    simp
    refine (answers_spec hl2 hv d2.len hb).nox ?_
    rintro _ G3 ⟨x3, rfl⟩
    simp
    exact ⟨d2.ex x3, _, _, _, _, _, _, rfl⟩
  | number =>
    rw [hv] at bad
    have hw' := hw
    rw [hv] at hw'
    obtain ⟨us, e⟩ := dt_tup hw'
    have b := bad us e (by simp) (dep_t2 _ _ (by omega))
    clear hw hw' bad
    subst e
    simp
    exact b
  | load k =>
    rw [hv] at bad
    have hw' := hw
    rw [hv] at hw'
    obtain ⟨us, e⟩ := dt_tup hw'
    have b := bad us e (by simp) (dep_t2 _ _ (by unfold dep; omega))
    clear hw hw' bad
    subst e
    simp
    exact b
  | many k =>
    rw [hv] at bad
    have hw' := hw
    rw [hv] at hw'
    obtain ⟨us, e⟩ := dt_tup hw'
    have b := bad us e (by simp) (dep_t2 _ _ (by unfold dep; omega))
    clear hw hw' bad
    subst e
    simp
    exact b
theorem dep_hand (ts : List Tri) (h : ts.length ≤ 400) : dep (handD ts) < 40 := by
  have := dep_it (d := handD ts) rfl
  rw [this, if_pos (by simp; omega)]
  have := deps_le (k := 2) (ds := ts.map fun t => PyData.list [.int t.1, .int t.2.1, .int t.2.2]) (fun x hx => by
    obtain ⟨t, -, rfl⟩ := List.mem_map.mp hx
    have := dep_it (d := .list [.int t.1, .int t.2.1, .int t.2.2]) rfl
    rw [this]
    have := deps_le (k := 0) (ds := [.int t.1, .int t.2.1, .int t.2.2]) (fun y hy => by
      simp at hy
      rcases hy with rfl | rfl | rfl <;> unfold dep <;> omega)
    simp
    omega)
  omega
theorem ldd_short {m : Int} {ld : List Tri} (h : Ldd m ld) : ld.length ≤ 400 := by
  have := tot_ge h.ok
  have := h.tot
  omega
theorem law_true (ns : List Int) (h1 : ns.length ≤ 63) (h2 : ∀ z ∈ ns, Builtin.Int.intBits z ≤ 1048576) : ∃ G', F_law [.rl (ns.map U.int)] [] = .ok (.bl true) G' := by
  have main : Wp (F_law [.rl (ns.map U.int)] []) (fun u _ => u = .bl true) noX := by
    rw [run_law, Wp_fin]
    unfold g_law
    simp
    refine (source_spec ns).imp ?_
    rintro _ G0 ⟨rfl, d0⟩
    simp
    refine machines_spec d0 fun m G1 m1 m2 x1 d1 => ?_
    simp
    refine drawn_load_spec d1 m1 m2 fun ld G2 x2 d2 hld => ?_
    have hv := ldd_verd m1 m2 hld
    have hs := ldd_short hld
    rw [← (List.mergeSort_perm ld leT).length_eq] at hs
    generalize ld.mergeSort leT = ts at hv hs
    clear hld
    have g2 := d2.len
    simp
    refine hand_spec (x4 := none) g2 (by omega) fun G3 x3 dh => ?_
    have d3 := d2.ex x3
    have hvh := verd_hand hv
    have hb : ∀ ds, itD (triD ts) = some ds → ds.length < 16777216 := fun ds e => by cases e; simp; omega
    have hbh : ∀ ds, itD (handD ts) = some ds → ds.length < 16777216 := fun ds e => by cases e; simp; omega
    simp
    refine (answers_spec (tri_dt G3 ts) hv d3.len hb).nox ?_
    rintro _ G4 ⟨x4, rfl⟩
    have d4 := d3.ex x4
    simp
    refine (answers_spec (dh.mono x4.ext) hvh d4.len hbh).nox ?_
    rintro _ G5 ⟨x5, rfl⟩
    have d5 := d4.ex x5
    have dh5 := (dh.mono x4.ext).mono x5.ext
    simp
    refine hand_spec (x4 := some (.ref G2.length)) d5.len (by omega) fun G6 x6 dh6 => ?_
    have d6 := d5.ex x6
    simp
    refine (same_true 40 (handD ts) _ _ G6 (dep_hand ts (by omega)) (by decide) (dh5.mono x6.ext) dh6).nox ?_
    rintro _ G7 ⟨rfl, x7⟩
    have d7 := d6.ex x7
    simp
    refine Ws_rng1 (j := 3) (G1 := G7) (fun i e G => LS ns m ts (.ref G2.length) e G) (eq_of_wpL (by simp)) (by omega) (by omega) ⟨d7, none, none, none, none, none, none, rfl⟩ (fun i hi e G hI => turn3 m1 m2 hv (by omega) hI) ?_
    intro e8 G8 hI8
    simp
    refine Ws_rng1 (j := 6) (G1 := G8) (fun i e G => LS ns m ts (.ref G2.length) e G) (eq_of_wpL (by simp)) (by omega) (by omega) hI8 (fun i hi e G hI => turn6 m1 m2 (by omega) hI) ?_
    rintro e9 G9 ⟨d9, y5, y6, y7, y8, y9, y10, rfl⟩
    simp
    refine (sc_busy (tri_dt G9 ts) hv rfl d9.len hb).nox ?_
    rintro _ G10 ⟨x10, rfl⟩
    have d10 := d9.ex x10
    simp
    refine (law_busy_spec (ld_of (tri_dt G10 ts) hv) (by omega) m1 m2).nox ?_
    rintro _ G11 ⟨x11, rfl⟩
    have d11 := d10.ex x11
    simp
    have hdb : dep (busyD (best m ts)) < 40 := Nat.lt_trans (dep_busy _) (by decide)
    have hbd : D2 G11 (busyU (best m ts)) (busyD (best m ts)) := busy_dt G11 (best m ts)
    generalize busyD (best m ts) = dd at hdb hbd
    generalize busyU (best m ts) = uu at hbd
    refine (same_true 40 dd uu uu G11 hdb (by decide) hbd hbd).nox ?_
    rintro _ G12 ⟨rfl, x12⟩
    have d12 := d11.ex x12
    simp
    refine (scene_spec d12.len).nox ?_
    rintro _ G13 rfl
    simp
  obtain ⟨a, G', e, rfl⟩ := main.ok
  exact ⟨G', e⟩
end K06

set_option Elab.async false
set_option linter.all false
set_option maxRecDepth 100000
set_option maxHeartbeats 8000000
set_option autoImplicit false

namespace K06
open PySem PySem.Spec L2 FL
def top (i : Nat) : Stmt := PySem.Challenge.pw_everydealt_k06_loads_and_their_errors.main.body.getD i (.Pass ⟨0, 0, 0, 0⟩)
abbrev s__law_source : Stmt := top 26
abbrev s__law_take : Stmt := top 27
abbrev s__law_machines : Stmt := top 30
abbrev s__law_drawn_load : Stmt := top 31
abbrev s__law_same : Stmt := top 28
abbrev s__law_spoilt : Stmt := top 38
abbrev s__law_spoilt_row : Stmt := top 35
abbrev s__law_tupled : Stmt := top 37
abbrev s__law_spoilt_load : Stmt := top 36
abbrev s__law_whole : Stmt := top 32
abbrev s__law_triple : Stmt := top 33
abbrev s__law_fault : Stmt := top 34
abbrev s_is_integer : Stmt := top 7
abbrev s_is_from_to : Stmt := top 8
abbrev s_check_number : Stmt := top 9
abbrev s_is_triple : Stmt := top 16
abbrev s_checked_load : Stmt := top 17
abbrev s_check_machine : Stmt := top 18
abbrev s_sums_got : Stmt := top 20
abbrev s_got_of : Stmt := top 23
abbrev s_sums_said : Stmt := top 19
abbrev s_greatest_sum : Stmt := top 21
abbrev s_busiest : Stmt := top 24
abbrev s_said_of : Stmt := top 22
abbrev s__law_call : Stmt := top 39
abbrev s__law_told : Stmt := top 40
abbrev s__law_all : Stmt := top 42
abbrev s__law_scene : Stmt := top 43
abbrev s__law_busy : Stmt := top 29
abbrev s__law_answers : Stmt := top 41
abbrev s_law : Stmt := top 44
abbrev s_InvalidLoad : Stmt := inClass (top 5) 0
abbrev s_InvalidNumber : Stmt := inClass (top 4) 0
abbrev s_NoMachine : Stmt := inClass (top 2) 0
abbrev s_TooMany : Stmt := inClass (top 3) 0
def exN : List Str := ["InvalidLoad", "InvalidNumber", "NoMachine", "TooMany"]
def exK : List (List Str) := [["DealError"], ["NoMachine"], ["NoMachine", "TooMany"], ["InvalidLoad", "NoMachine", "TooMany"]]
def exF : List Str := ["machine", "many", "number", "place"]
structure EV (K : PySem.W.Frag) (mg : Str → Option Value) : Type where
  fd__law_source : FuncData
  D__law_source : FunD K "_law_source" "_law_source" (defArgs s__law_source) (defBody s__law_source) (defScope s__law_source) [] [] (He.ga K "_law_source") fd__law_source
  g__law_source : mg "_law_source" = some (.ref (He.ga K "_law_source"))
  fd__law_take : FuncData
  D__law_take : FunD K "_law_take" "_law_take" (defArgs s__law_take) (defBody s__law_take) (defScope s__law_take) [] [] (He.ga K "_law_take") fd__law_take
  g__law_take : mg "_law_take" = some (.ref (He.ga K "_law_take"))
  fd__law_machines : FuncData
  D__law_machines : FunD K "_law_machines" "_law_machines" (defArgs s__law_machines) (defBody s__law_machines) (defScope s__law_machines) [] [] (He.ga K "_law_machines") fd__law_machines
  g__law_machines : mg "_law_machines" = some (.ref (He.ga K "_law_machines"))
  fd__law_drawn_load : FuncData
  D__law_drawn_load : FunD K "_law_drawn_load" "_law_drawn_load" (defArgs s__law_drawn_load) (defBody s__law_drawn_load) (defScope s__law_drawn_load) [] [] (He.ga K "_law_drawn_load") fd__law_drawn_load
  g__law_drawn_load : mg "_law_drawn_load" = some (.ref (He.ga K "_law_drawn_load"))
  fd__law_same : FuncData
  D__law_same : FunD K "_law_same" "_law_same" (defArgs s__law_same) (defBody s__law_same) (defScope s__law_same) [] [] (He.ga K "_law_same") fd__law_same
  g__law_same : mg "_law_same" = some (.ref (He.ga K "_law_same"))
  fd__law_spoilt : FuncData
  D__law_spoilt : FunD K "_law_spoilt" "_law_spoilt" (defArgs s__law_spoilt) (defBody s__law_spoilt) (defScope s__law_spoilt) [] [] (He.ga K "_law_spoilt") fd__law_spoilt
  g__law_spoilt : mg "_law_spoilt" = some (.ref (He.ga K "_law_spoilt"))
  fd__law_spoilt_row : FuncData
  D__law_spoilt_row : FunD K "_law_spoilt_row" "_law_spoilt_row" (defArgs s__law_spoilt_row) (defBody s__law_spoilt_row) (defScope s__law_spoilt_row) [] [] (He.ga K "_law_spoilt_row") fd__law_spoilt_row
  g__law_spoilt_row : mg "_law_spoilt_row" = some (.ref (He.ga K "_law_spoilt_row"))
  fd__law_tupled : FuncData
  D__law_tupled : FunD K "_law_tupled" "_law_tupled" (defArgs s__law_tupled) (defBody s__law_tupled) (defScope s__law_tupled) [] [] (He.ga K "_law_tupled") fd__law_tupled
  g__law_tupled : mg "_law_tupled" = some (.ref (He.ga K "_law_tupled"))
  fd__law_spoilt_load : FuncData
  D__law_spoilt_load : FunD K "_law_spoilt_load" "_law_spoilt_load" (defArgs s__law_spoilt_load) (defBody s__law_spoilt_load) (defScope s__law_spoilt_load) [] [] (He.ga K "_law_spoilt_load") fd__law_spoilt_load
  g__law_spoilt_load : mg "_law_spoilt_load" = some (.ref (He.ga K "_law_spoilt_load"))
  fd__law_whole : FuncData
  D__law_whole : FunD K "_law_whole" "_law_whole" (defArgs s__law_whole) (defBody s__law_whole) (defScope s__law_whole) [] [] (He.ga K "_law_whole") fd__law_whole
  g__law_whole : mg "_law_whole" = some (.ref (He.ga K "_law_whole"))
  fd__law_triple : FuncData
  D__law_triple : FunD K "_law_triple" "_law_triple" (defArgs s__law_triple) (defBody s__law_triple) (defScope s__law_triple) [] [] (He.ga K "_law_triple") fd__law_triple
  g__law_triple : mg "_law_triple" = some (.ref (He.ga K "_law_triple"))
  fd__law_fault : FuncData
  D__law_fault : FunD K "_law_fault" "_law_fault" (defArgs s__law_fault) (defBody s__law_fault) (defScope s__law_fault) [] [] (He.ga K "_law_fault") fd__law_fault
  g__law_fault : mg "_law_fault" = some (.ref (He.ga K "_law_fault"))
  fd_is_integer : FuncData
  D_is_integer : FunD K "is_integer" "is_integer" (defArgs s_is_integer) (defBody s_is_integer) (defScope s_is_integer) [] [] (He.ga K "is_integer") fd_is_integer
  g_is_integer : mg "is_integer" = some (.ref (He.ga K "is_integer"))
  fd_is_from_to : FuncData
  D_is_from_to : FunD K "is_from_to" "is_from_to" (defArgs s_is_from_to) (defBody s_is_from_to) (defScope s_is_from_to) [] [] (He.ga K "is_from_to") fd_is_from_to
  g_is_from_to : mg "is_from_to" = some (.ref (He.ga K "is_from_to"))
  fd_check_number : FuncData
  D_check_number : FunD K "check_number" "check_number" (defArgs s_check_number) (defBody s_check_number) (defScope s_check_number) [] [] (He.ga K "check_number") fd_check_number
  g_check_number : mg "check_number" = some (.ref (He.ga K "check_number"))
  fd_is_triple : FuncData
  D_is_triple : FunD K "is_triple" "is_triple" (defArgs s_is_triple) (defBody s_is_triple) (defScope s_is_triple) [] [] (He.ga K "is_triple") fd_is_triple
  g_is_triple : mg "is_triple" = some (.ref (He.ga K "is_triple"))
  fd_checked_load : FuncData
  D_checked_load : FunD K "checked_load" "checked_load" (defArgs s_checked_load) (defBody s_checked_load) (defScope s_checked_load) [] [] (He.ga K "checked_load") fd_checked_load
  g_checked_load : mg "checked_load" = some (.ref (He.ga K "checked_load"))
  fd_check_machine : FuncData
  D_check_machine : FunD K "check_machine" "check_machine" (defArgs s_check_machine) (defBody s_check_machine) (defScope s_check_machine) [] [] (He.ga K "check_machine") fd_check_machine
  g_check_machine : mg "check_machine" = some (.ref (He.ga K "check_machine"))
  fd_sums_got : FuncData
  D_sums_got : FunD K "sums_got" "sums_got" (defArgs s_sums_got) (defBody s_sums_got) (defScope s_sums_got) [] [] (He.ga K "sums_got") fd_sums_got
  g_sums_got : mg "sums_got" = some (.ref (He.ga K "sums_got"))
  fd_got_of : FuncData
  D_got_of : FunD K "got_of" "got_of" (defArgs s_got_of) (defBody s_got_of) (defScope s_got_of) [] [] (He.ga K "got_of") fd_got_of
  g_got_of : mg "got_of" = some (.ref (He.ga K "got_of"))
  fd_sums_said : FuncData
  D_sums_said : FunD K "sums_said" "sums_said" (defArgs s_sums_said) (defBody s_sums_said) (defScope s_sums_said) [] [] (He.ga K "sums_said") fd_sums_said
  g_sums_said : mg "sums_said" = some (.ref (He.ga K "sums_said"))
  fd_greatest_sum : FuncData
  D_greatest_sum : FunD K "greatest_sum" "greatest_sum" (defArgs s_greatest_sum) (defBody s_greatest_sum) (defScope s_greatest_sum) [] [] (He.ga K "greatest_sum") fd_greatest_sum
  g_greatest_sum : mg "greatest_sum" = some (.ref (He.ga K "greatest_sum"))
  fd_busiest : FuncData
  D_busiest : FunD K "busiest" "busiest" (defArgs s_busiest) (defBody s_busiest) (defScope s_busiest) [] [] (He.ga K "busiest") fd_busiest
  g_busiest : mg "busiest" = some (.ref (He.ga K "busiest"))
  fd_said_of : FuncData
  D_said_of : FunD K "said_of" "said_of" (defArgs s_said_of) (defBody s_said_of) (defScope s_said_of) [] [] (He.ga K "said_of") fd_said_of
  g_said_of : mg "said_of" = some (.ref (He.ga K "said_of"))
  fd__law_call : FuncData
  D__law_call : FunD K "_law_call" "_law_call" (defArgs s__law_call) (defBody s__law_call) (defScope s__law_call) [] [] (He.ga K "_law_call") fd__law_call
  g__law_call : mg "_law_call" = some (.ref (He.ga K "_law_call"))
  fd__law_told : FuncData
  D__law_told : FunD K "_law_told" "_law_told" (defArgs s__law_told) (defBody s__law_told) (defScope s__law_told) [] [] (He.ga K "_law_told") fd__law_told
  g__law_told : mg "_law_told" = some (.ref (He.ga K "_law_told"))
  fd__law_all : FuncData
  D__law_all : FunD K "_law_all" "_law_all" (defArgs s__law_all) (defBody s__law_all) (defScope s__law_all) [] [] (He.ga K "_law_all") fd__law_all
  g__law_all : mg "_law_all" = some (.ref (He.ga K "_law_all"))
  fd__law_scene : FuncData
  D__law_scene : FunD K "_law_scene" "_law_scene" (defArgs s__law_scene) (defBody s__law_scene) (defScope s__law_scene) [] [] (He.ga K "_law_scene") fd__law_scene
  g__law_scene : mg "_law_scene" = some (.ref (He.ga K "_law_scene"))
  fd__law_busy : FuncData
  D__law_busy : FunD K "_law_busy" "_law_busy" (defArgs s__law_busy) (defBody s__law_busy) (defScope s__law_busy) [] [] (He.ga K "_law_busy") fd__law_busy
  g__law_busy : mg "_law_busy" = some (.ref (He.ga K "_law_busy"))
  fd__law_answers : FuncData
  D__law_answers : FunD K "_law_answers" "_law_answers" (defArgs s__law_answers) (defBody s__law_answers) (defScope s__law_answers) [] [] (He.ga K "_law_answers") fd__law_answers
  g__law_answers : mg "_law_answers" = some (.ref (He.ga K "_law_answers"))
  fd_law : FuncData
  D_law : FunD K "law" "law" (defArgs s_law) (defBody s_law) (defScope s_law) [] [] (He.ga K "law") fd_law
  g_law : mg "law" = some (.ref (He.ga K "law"))
  fd_InvalidLoad : FuncData
  D_InvalidLoad : FunD K "__init__" "InvalidLoad.__init__" (defArgs s_InvalidLoad) (defBody s_InvalidLoad) (defScope s_InvalidLoad) [] [] (He.ma K (He.ga K "InvalidLoad") "__init__") fd_InvalidLoad
  x_InvalidLoad : ExK K mg "InvalidLoad" (He.ma K (He.ga K "InvalidLoad") "__init__") ["place"]
  fd_InvalidNumber : FuncData
  D_InvalidNumber : FunD K "__init__" "InvalidNumber.__init__" (defArgs s_InvalidNumber) (defBody s_InvalidNumber) (defScope s_InvalidNumber) [] [] (He.ma K (He.ga K "InvalidNumber") "__init__") fd_InvalidNumber
  x_InvalidNumber : ExK K mg "InvalidNumber" (He.ma K (He.ga K "InvalidNumber") "__init__") ["number"]
  fd_NoMachine : FuncData
  D_NoMachine : FunD K "__init__" "NoMachine.__init__" (defArgs s_NoMachine) (defBody s_NoMachine) (defScope s_NoMachine) [] [] (He.ma K (He.ga K "NoMachine") "__init__") fd_NoMachine
  x_NoMachine : ExK K mg "NoMachine" (He.ma K (He.ga K "NoMachine") "__init__") ["machine"]
  fd_TooMany : FuncData
  D_TooMany : FunD K "__init__" "TooMany.__init__" (defArgs s_TooMany) (defBody s_TooMany) (defScope s_TooMany) [] [] (He.ma K (He.ga K "TooMany") "__init__") fd_TooMany
  x_TooMany : ExK K mg "TooMany" (He.ma K (He.ga K "TooMany") "__init__") ["many"]
  g_DealError : mg "DealError" = some (.ref (He.ga K "DealError"))
  c_GETS : ∃ t, mg "GETS" = some (.str ("gets" : Str) t)
  g_InvalidLoad : mg "InvalidLoad" = some (.ref (He.ga K "InvalidLoad"))
  g_InvalidNumber : mg "InvalidNumber" = some (.ref (He.ga K "InvalidNumber"))
  c_MOST_MACHINES : ∃ t, mg "MOST_MACHINES" = some (.int 12 t)
  c_MOST_NUMBERS : ∃ t, mg "MOST_NUMBERS" = some (.int 400 t)
  c_MOST_OF_ONE : ∃ t, mg "MOST_OF_ONE" = some (.int 200 t)
  g_NoMachine : mg "NoMachine" = some (.ref (He.ga K "NoMachine"))
  c_SAYS : ∃ t, mg "SAYS" = some (.str ("says" : Str) t)
  g_TooMany : mg "TooMany" = some (.ref (He.ga K "TooMany"))
  ve : ∀ c ∈ exT.map (·.1), PySem.W.kitOne K (.ref (He.ga K c)) (.type "ValueError") = some true
  f_ValueError : mg "ValueError" = none
  f_bool : mg "bool" = none
  f_enumerate : mg "enumerate" = none
  f_int : mg "int" = none
  f_isinstance : mg "isinstance" = none
  f_len : mg "len" = none
  f_list : mg "list" = none
  f_max : mg "max" = none
  f_min : mg "min" = none
  f_range : mg "range" = none
  f_sorted : mg "sorted" = none
  f_str : mg "str" = none
  f_sum : mg "sum" = none
  f_tuple : mg "tuple" = none
  ex : EX K exT exN exK exF
section
variable {P : Program} {w : World} {K : PySem.W.Frag} {mg : Str → Option Value} {base : Heap}
theorem sc_InvalidLoad : FnScope ["self", "place"] ["self", "place"] (defScope s_InvalidLoad) := ⟨rfl, rfl, rfl, by decide +kernel, rfl, by decide +kernel, by decide +kernel⟩
theorem okx_InvalidLoad (E : EV K mg) : FnOk P w K mg base (CX P w) 1 (He.ma K (He.ga K "InvalidLoad") "__init__") E.fd_InvalidLoad ["self", "place"] (spI K (He.ga K "InvalidLoad") ["place"]) :=
  okI1 E.D_InvalidLoad sc_InvalidLoad rfl (fun cdv A outer s H EE => pss_one (ps_ost (pv 0) (pv 1)))
theorem bx_InvalidLoad (E : EV K mg) : Binds K E.fd_InvalidLoad ["self", "place"] [] := E.D_InvalidLoad.bindsN fun _ _ _ _ _ _ us hl => match us, hl with | [_, _], _ => rfl
theorem sc_InvalidNumber : FnScope ["self", "number"] ["self", "number"] (defScope s_InvalidNumber) := ⟨rfl, rfl, rfl, by decide +kernel, rfl, by decide +kernel, by decide +kernel⟩
theorem okx_InvalidNumber (E : EV K mg) : FnOk P w K mg base (CX P w) 1 (He.ma K (He.ga K "InvalidNumber") "__init__") E.fd_InvalidNumber ["self", "number"] (spI K (He.ga K "InvalidNumber") ["number"]) :=
  okI1 E.D_InvalidNumber sc_InvalidNumber rfl (fun cdv A outer s H EE => pss_one (ps_ost (pv 0) (pv 1)))
theorem bx_InvalidNumber (E : EV K mg) : Binds K E.fd_InvalidNumber ["self", "number"] [] := E.D_InvalidNumber.bindsN fun _ _ _ _ _ _ us hl => match us, hl with | [_, _], _ => rfl
theorem sc_NoMachine : FnScope ["self", "machine"] ["self", "machine"] (defScope s_NoMachine) := ⟨rfl, rfl, rfl, by decide +kernel, rfl, by decide +kernel, by decide +kernel⟩
theorem okx_NoMachine (E : EV K mg) : FnOk P w K mg base (CX P w) 1 (He.ma K (He.ga K "NoMachine") "__init__") E.fd_NoMachine ["self", "machine"] (spI K (He.ga K "NoMachine") ["machine"]) :=
  okI1 E.D_NoMachine sc_NoMachine rfl (fun cdv A outer s H EE => pss_one (ps_ost (pv 0) (pv 1)))
theorem bx_NoMachine (E : EV K mg) : Binds K E.fd_NoMachine ["self", "machine"] [] := E.D_NoMachine.bindsN fun _ _ _ _ _ _ us hl => match us, hl with | [_, _], _ => rfl
theorem sc_TooMany : FnScope ["self", "many"] ["self", "many"] (defScope s_TooMany) := ⟨rfl, rfl, rfl, by decide +kernel, rfl, by decide +kernel, by decide +kernel⟩
theorem okx_TooMany (E : EV K mg) : FnOk P w K mg base (CX P w) 1 (He.ma K (He.ga K "TooMany") "__init__") E.fd_TooMany ["self", "many"] (spI K (He.ga K "TooMany") ["many"]) :=
  okI1 E.D_TooMany sc_TooMany rfl (fun cdv A outer s H EE => pss_one (ps_ost (pv 0) (pv 1)))
theorem bx_TooMany (E : EV K mg) : Binds K E.fd_TooMany ["self", "many"] [] := E.D_TooMany.bindsN fun _ _ _ _ _ _ us hl => match us, hl with | [_, _], _ => rfl
theorem sc__law_source : FnScope ["script", "state", "great", "cell"] ["script"] (defScope s__law_source) := ⟨rfl, rfl, rfl, by decide +kernel, rfl, by decide +kernel, by decide +kernel⟩
theorem b__law_source (E : EV K mg) : Binds K E.fd__law_source ["script"] [] := E.D__law_source.bindsN fun _ _ _ _ _ _ us hl => match us, hl with | [_], _ => rfl
theorem ok__law_source (E : EV K mg) : FnF P w K mg base 2 (He.ga K "_law_source") E.fd__law_source ["script"] F__law_source := by
  have sc := sc__law_source
  refine fnF_of (k := 1) E.D__law_source sc__law_source (fun Z hZ X cdv A outer s H EE hX hr => ?_)
  subst hX
  have tk : Takes _ (wE EE) := takes_of (X := cxOf (CX P w) P w K mg base ["script", "state", "great", "cell"] "_law_source" (defScope s__law_source) (He.ga K "_law_source") cdv A outer s H EE) rfl rfl rfl rfl
  have hp := passes_of (X := cxOf (CX P w) P w K mg base ["script", "state", "great", "cell"] "_law_source" (defScope s__law_source) (He.ga K "_law_source") cdv A outer s H EE) rfl
  exact (fscons (fset (i := 1) sc.nd rfl (Or.inl rfl) fint) (fscons (fset (i := 2) sc.nd rfl (Or.inl rfl) (flst fanil)) (fscons (fsfor hp rfl (fiseq (fslice (fv 0) fono (foint fint))) (fgname (i := 3) sc.nd rfl (Or.inl rfl)) (nxName 3) (fscons (fset (i := 1) sc.nd rfl (Or.inl rfl) (fmod (fcint E.f_int (facons (fadd (fadd (fmul (fv 1) (fv 1)) (fmul (fcint E.f_int (facons (fv 3) fanil)) fint)) fint) fanil)) fint)) (fsone (fsif (tge (fv 3) (fpow fint fint)) (fsone (fexpr (fmeth oAppend PySem.F.slot_list_append rfl mt_append (fv 2) (facons (fcint E.f_int (facons (fv 3) fanil)) fanil)))) fsnil)))) (fsone (fret (flst (facons (fv 2) (facons fint (facons (fv 1) (facons fint fanil))))))))))
theorem sc__law_take : FnScope ["source", "many", "digit"] ["source", "many"] (defScope s__law_take) := ⟨rfl, rfl, rfl, by decide +kernel, rfl, by decide +kernel, by decide +kernel⟩
theorem b__law_take (E : EV K mg) : Binds K E.fd__law_take ["source", "many"] [] := E.D__law_take.bindsN fun _ _ _ _ _ _ us hl => match us, hl with | [_, _], _ => rfl
theorem ok__law_take (E : EV K mg) : FnF P w K mg base 2 (He.ga K "_law_take") E.fd__law_take ["source", "many"] F__law_take := by
  have sc := sc__law_take
  refine fnF_of (k := 1) E.D__law_take sc__law_take (fun Z hZ X cdv A outer s H EE hX hr => ?_)
  subst hX
  have tk : Takes _ (wE EE) := takes_of (X := cxOf (CX P w) P w K mg base ["source", "many", "digit"] "_law_take" (defScope s__law_take) (He.ga K "_law_take") cdv A outer s H EE) rfl rfl rfl rfl
  have hp := passes_of (X := cxOf (CX P w) P w K mg base ["source", "many", "digit"] "_law_take" (defScope s__law_take) (He.ga K "_law_take") cdv A outer s H EE) rfl
  exact (fscons (fsif (ft_w (fw_and (tlt (fidx (fv 0) fint) (fv 1)) (fw_and1 (tgt (flen E.f_len (facons (fidx (fv 0) fint) fanil)) fint)))) (fsone (fasg (fmeth oPopAt PySem.F.slot_list_pop rfl mt_popAt (fidx (fv 0) fint) (facons fint fanil)) (fgsub (W := W0) (fv 0) fint) nxSub)) fsnil) (fscons (fsif (tge (fidx (fv 0) fint) (fv 1)) (fscons (fset (i := 2) sc.nd rfl (Or.inl rfl) (fmod (fcint E.f_int (facons (fidx (fv 0) fint) fanil)) (fv 1))) (fscons (fasg (ffdiv (fidx (fv 0) fint) (fv 1)) (fgsub (W := W0) (fv 0) fint) nxSub) (fsone (fret (fv 2))))) fsnil) (fscons (fasg (fadd (fidx (fv 0) fint) fint) (fgsub (W := W0) (fv 0) fint) nxSub) (fscons (fasg (fmod (fcint E.f_int (facons (fadd (fmul (fidx (fv 0) fint) (fidx (fv 0) fint)) (fmul (fidx (fv 0) fint) fint)) fanil)) fint) (fgsub (W := W0) (fv 0) fint) nxSub) (fsone (fret (fmod (fcint E.f_int (facons (ffdiv (fidx (fv 0) fint) fint) fanil)) (fv 1))))))))
theorem sc__law_machines : FnScope ["source"] ["source"] (defScope s__law_machines) := ⟨rfl, rfl, rfl, by decide +kernel, rfl, by decide +kernel, by decide +kernel⟩
theorem b__law_machines (E : EV K mg) : Binds K E.fd__law_machines ["source"] [] := E.D__law_machines.bindsN fun _ _ _ _ _ _ us hl => match us, hl with | [_], _ => rfl
theorem ok__law_machines (E : EV K mg) : FnF P w K mg base 3 (He.ga K "_law_machines") E.fd__law_machines ["source"] F__law_machines := by
  have sc := sc__law_machines
  refine fnF_of (k := 2) E.D__law_machines sc__law_machines (fun Z hZ X cdv A outer s H EE hX hr => ?_)
  subst hX
  have tk : Takes _ (wE EE) := takes_of (X := cxOf (CX P w) P w K mg base ["source"] "_law_machines" (defScope s__law_machines) (He.ga K "_law_machines") cdv A outer s H EE) rfl rfl rfl rfl
  have hp := passes_of (X := cxOf (CX P w) P w K mg base ["source"] "_law_machines" (defScope s__law_machines) (He.ga K "_law_machines") cdv A outer s H EE) rfl
  exact (fsone (fret (fadd fint (fcall hZ (ok__law_take E) ar__law_take (hr.mono (by decide)) tk E.g__law_take E.D__law_take.kp (b__law_take E) (facons (fv 0) (facons (fidx (ftup (facons fint (facons fint (facons fint fanil)))) (fcall hZ (ok__law_take E) ar__law_take (hr.mono (by decide)) tk E.g__law_take E.D__law_take.kp (b__law_take E) (facons (fv 0) (facons fint fanil)))) fanil))))))
theorem sc__law_drawn_load : FnScope ["source", "many", "left", "names", "mode", "room", "load", "a", "b", "number", "k"] ["source", "many"] (defScope s__law_drawn_load) := ⟨rfl, rfl, rfl, by decide +kernel, rfl, by decide +kernel, by decide +kernel⟩
theorem b__law_drawn_load (E : EV K mg) : Binds K E.fd__law_drawn_load ["source", "many"] [] := E.D__law_drawn_load.bindsN fun _ _ _ _ _ _ us hl => match us, hl with | [_, _], _ => rfl
theorem ok__law_drawn_load (E : EV K mg) : FnF P w K mg base 3 (He.ga K "_law_drawn_load") E.fd__law_drawn_load ["source", "many"] F__law_drawn_load := by
  have sc := sc__law_drawn_load
  refine fnF_of (k := 2) E.D__law_drawn_load sc__law_drawn_load (fun Z hZ X cdv A outer s H EE hX hr => ?_)
  subst hX
  have tk : Takes _ (wE EE) := takes_of (X := cxOf (CX P w) P w K mg base ["source", "many", "left", "names", "mode", "room", "load", "a", "b", "number", "k"] "_law_drawn_load" (defScope s__law_drawn_load) (He.ga K "_law_drawn_load") cdv A outer s H EE) rfl rfl rfl rfl
  have hp := passes_of (X := cxOf (CX P w) P w K mg base ["source", "many", "left", "names", "mode", "room", "load", "a", "b", "number", "k"] "_law_drawn_load" (defScope s__law_drawn_load) (He.ga K "_law_drawn_load") cdv A outer s H EE) rfl
  exact (fscons (fset (i := 2) sc.nd rfl (Or.inr rfl) (flistRg1 rfl E.f_list E.f_range (fv 1))) (fscons (fsetcomp (i := 3) hZ rfl sc.nd rfl rfl rfl (fir1 (by rfl) E.f_range (facons (fv 1) fanil)) (blkOk_by (own := [(("k" : Str), 10)]) (by rfl)) (fun _ _ _ _ _ => (fwname (i := 10) sc.nd rfl (Or.inl rfl))) (fun _ _ _ _ _ => ftsnil) (fun _ _ _ _ _ => (fmeth oPopAt PySem.F.slot_list_pop rfl mt_popAt (fv 2) (facons (fcall hZ (ok__law_take E) ar__law_take (hr.mono (by decide)) takesW0 E.g__law_take E.D__law_take.kp (b__law_take E) (facons (fv 0) (facons (flen E.f_len (facons (fv 2) fanil)) fanil))) fanil)))) (fscons (fset (i := 4) sc.nd rfl (Or.inl rfl) (fcall hZ (ok__law_take E) ar__law_take (hr.mono (by decide)) tk E.g__law_take E.D__law_take.kp (b__law_take E) (facons (fv 0) (facons fint fanil)))) (fscons (fset (i := 5) sc.nd rfl (Or.inl rfl) fint) (fscons (fset (i := 6) sc.nd rfl (Or.inl rfl) (flst fanil)) (fscons (fsfor hp rfl (fir1 (by rfl) E.f_range (facons (fv 1) fanil)) (fgname (i := 7) sc.nd rfl (Or.inl rfl)) (nxName 7) (fsone (fsfor hp rfl (fir1 (by rfl) E.f_range (facons (fv 1) fanil)) (fgname (i := 8) sc.nd rfl (Or.inl rfl)) (nxName 8) (fsone (fsif (ft_w (fw_and (tne hr.units (fv 7) (fv 8)) (fw_and1 (teq hr.units (fcall hZ (ok__law_take E) ar__law_take (hr.mono (by decide)) tk E.g__law_take E.D__law_take.kp (b__law_take E) (facons (fv 0) (facons (fidx (ftup (facons (fv 1) (facons fint (facons (fv 1) (facons fint (facons fint (facons fint fanil))))))) (fv 4)) fanil))) fint)))) (fscons (fset (i := 9) sc.nd rfl (Or.inl rfl) (fmin2 rfl E.f_min (facons (fadd fint (fcall hZ (ok__law_take E) ar__law_take (hr.mono (by decide)) tk E.g__law_take E.D__law_take.kp (b__law_take E) (facons (fv 0) (facons (fidx (ftup (facons fint (facons fint (facons fint (facons fint (facons fint (facons fint fanil))))))) (fv 4)) fanil)))) (facons (fv 5) fanil)))) (fsone (fsif (tgt (fv 9) fint) (fscons (fexpr (fmeth oAppend PySem.F.slot_list_append rfl mt_append (fv 6) (facons (ftup (facons (fidx (fv 3) (fv 7)) (facons (fidx (fv 3) (fv 8)) (facons (fv 9) fanil)))) fanil))) (fsone (fset (i := 5) sc.nd rfl (Or.inl rfl) (fsub (fv 5) (fv 9))))) fsnil))) fsnil))))) (fsone (fret (fctuple E.f_tuple (facons (fsorted E.f_sorted (facons (fv 6) fanil)) fanil))))))))))
theorem sc__law_same : FnScope ["one", "two", "k"] ["one", "two"] (defScope s__law_same) := ⟨rfl, rfl, rfl, by decide +kernel, rfl, by decide +kernel, by decide +kernel⟩
theorem b__law_same (E : EV K mg) : Binds K E.fd__law_same ["one", "two"] [] := E.D__law_same.bindsN fun _ _ _ _ _ _ us hl => match us, hl with | [_, _], _ => rfl
theorem ok__law_same (E : EV K mg) : ∀ d, FnF P w K mg base (2 + d) (He.ga K "_law_same") E.fd__law_same ["one", "two"] (F__law_same d)
  | 0 => fnF_bad
  | d + 1 => by
    have ih := ok__law_same E d
    have hrec := ar__law_same d
    generalize hq : F__law_same d = rec at ih hrec
    have sc := sc__law_same
    show FnF P w K mg base (2 + d + 1) _ _ _ (defF 2 3 (g__law_same (F__law_same d)))
    rw [hq]
    refine fnF_of E.D__law_same sc__law_same (fun Z hZ X cdv A outer s H EE hX hr => ?_)
    subst hX
    have tk : Takes _ (wE EE) := takes_of (X := cxOf (CX P w) P w K mg base ["one", "two", "k"] "_law_same" (defScope s__law_same) (He.ga K "_law_same") cdv A outer s H EE) rfl rfl rfl rfl
    have hp := passes_of (X := cxOf (CX P w) P w K mg base ["one", "two", "k"] "_law_same" (defScope s__law_same) (He.ga K "_law_same") cdv A outer s H EE) rfl
    exact (fscons (fsif (ft_val (fisTL E.f_isinstance E.f_tuple E.f_list (fv 1))) (fscons (fsif (ft_w (fw_or (tne hr.units (fisList E.f_isinstance E.f_list (fv 0)) (fisList E.f_isinstance E.f_list (fv 1))) (fw_or1 (tne hr.units (fisTuple E.f_isinstance E.f_tuple (fv 0)) (fisTuple E.f_isinstance E.f_tuple (fv 1)))))) (fsone (fret fbl)) fsnil) (fscons (fsif (tne hr.units (flen E.f_len (facons (fv 0) fanil)) (flen E.f_len (facons (fv 1) fanil))) (fsone (fret fbl)) fsnil) (fsone (fret (feq hr.units (flen E.f_len (facons (fcomp hZ rfl sc.nd (fir1 (by rfl) E.f_range (facons (flen E.f_len (facons (fv 1) fanil)) fanil)) (blkOk_by (own := [(("k" : Str), 2)]) (by rfl)) (fun _ _ _ _ _ => (fwname (i := 2) sc.nd rfl (Or.inl rfl))) (fun _ _ _ _ _ => (ftsone (ft_not (ft_val (fcall hZ ih hrec (hr.mono (by omega)) takesW0 E.g__law_same E.D__law_same.kp (b__law_same E) (facons (fidx (fv 0) (fv 2)) (facons (fidx (fv 1) (fv 2)) fanil))))))) (fun _ _ _ _ _ => (fv 2))) fanil)) fint))))) fsnil) (fscons (fsif (tne hr.units (fisBool E.f_isinstance E.f_bool (fv 0)) (fisBool E.f_isinstance E.f_bool (fv 1))) (fsone (fret fbl)) fsnil) (fscons (fsif (ft_val (fisInt E.f_isinstance E.f_int (fv 1))) (fsone (fret (fand (fisInt E.f_isinstance E.f_int (fv 0)) (fone (feq hr.units (fv 0) (fv 1)))))) fsnil) (fscons (fsif (ft_val (fisStr E.f_isinstance E.f_str (fv 1))) (fsone (fret (fand (fisStr E.f_isinstance E.f_str (fv 0)) (fone (feq hr.units (fv 0) (fv 1)))))) fsnil) (fsone (fret (fand (fisN (fv 0) fnon) (fone (fisN (fv 1) fnon)))))))))
theorem sc__law_spoilt : FnScope ["source", "many", "choice"] ["source", "many"] (defScope s__law_spoilt) := ⟨rfl, rfl, rfl, by decide +kernel, rfl, by decide +kernel, by decide +kernel⟩
theorem b__law_spoilt (E : EV K mg) : Binds K E.fd__law_spoilt ["source", "many"] [] := E.D__law_spoilt.bindsN fun _ _ _ _ _ _ us hl => match us, hl with | [_, _], _ => rfl
theorem ok__law_spoilt (E : EV K mg) : FnF P w K mg base 3 (He.ga K "_law_spoilt") E.fd__law_spoilt ["source", "many"] F__law_spoilt := by
  have sc := sc__law_spoilt
  refine fnF_of (k := 2) E.D__law_spoilt sc__law_spoilt (fun Z hZ X cdv A outer s H EE hX hr => ?_)
  subst hX
  have tk : Takes _ (wE EE) := takes_of (X := cxOf (CX P w) P w K mg base ["source", "many", "choice"] "_law_spoilt" (defScope s__law_spoilt) (He.ga K "_law_spoilt") cdv A outer s H EE) rfl rfl rfl rfl
  have hp := passes_of (X := cxOf (CX P w) P w K mg base ["source", "many", "choice"] "_law_spoilt" (defScope s__law_spoilt) (He.ga K "_law_spoilt") cdv A outer s H EE) rfl
  exact (fscons (fset (i := 2) sc.nd rfl (Or.inl rfl) (fcall hZ (ok__law_take E) ar__law_take (hr.mono (by decide)) tk E.g__law_take E.D__law_take.kp (b__law_take E) (facons (fv 0) (facons fint fanil)))) (fscons (fsif (tlt (fv 2) fint) (fsone (fret (fidx (ftup (facons (fv 1) (facons (fadd (fadd (fv 1) fint) (fcall hZ (ok__law_take E) ar__law_take (hr.mono (by decide)) tk E.g__law_take E.D__law_take.kp (b__law_take E) (facons (fv 0) (facons fint fanil)))) (facons (fsub (fneg fint) (fcall hZ (ok__law_take E) ar__law_take (hr.mono (by decide)) tk E.g__law_take E.D__law_take.kp (b__law_take E) (facons (fv 0) (facons fint fanil)))) fanil)))) (fv 2)))) fsnil) (fscons (fsif (teq hr.units (fv 2) fint) (fsone (fret (fadd (fpow fint fint) (fcall hZ (ok__law_take E) ar__law_take (hr.mono (by decide)) tk E.g__law_take E.D__law_take.kp (b__law_take E) (facons (fv 0) (facons fint fanil)))))) fsnil) (fscons (fsif (tlt (fv 2) fint) (fsone (fret (feq hr.units (fcall hZ (ok__law_take E) ar__law_take (hr.mono (by decide)) tk E.g__law_take E.D__law_take.kp (b__law_take E) (facons (fv 0) (facons fint fanil))) fint))) fsnil) (fsone (fret (fidx (ftup (facons fnon (facons (fcstr E.f_str (facons (fcall hZ (ok__law_take E) ar__law_take (hr.mono (by decide)) tk E.g__law_take E.D__law_take.kp (b__law_take E) (facons (fv 0) (facons fint fanil))) fanil)) (facons (flst (facons (fcall hZ (ok__law_take E) ar__law_take (hr.mono (by decide)) tk E.g__law_take E.D__law_take.kp (b__law_take E) (facons (fv 0) (facons fint fanil))) fanil)) (facons (ftup (facons (fcall hZ (ok__law_take E) ar__law_take (hr.mono (by decide)) tk E.g__law_take E.D__law_take.kp (b__law_take E) (facons (fv 0) (facons fint fanil))) fanil)) fanil))))) (fsub (fv 2) fint))))))))
theorem sc__law_spoilt_row : FnScope ["source", "many", "row", "choice"] ["source", "many", "row"] (defScope s__law_spoilt_row) := ⟨rfl, rfl, rfl, by decide +kernel, rfl, by decide +kernel, by decide +kernel⟩
theorem b__law_spoilt_row (E : EV K mg) : Binds K E.fd__law_spoilt_row ["source", "many", "row"] [] := E.D__law_spoilt_row.bindsN fun _ _ _ _ _ _ us hl => match us, hl with | [_, _, _], _ => rfl
theorem ok__law_spoilt_row (E : EV K mg) : FnF P w K mg base 3 (He.ga K "_law_spoilt_row") E.fd__law_spoilt_row ["source", "many", "row"] F__law_spoilt_row := by
  have sc := sc__law_spoilt_row
  refine fnF_of (k := 2) E.D__law_spoilt_row sc__law_spoilt_row (fun Z hZ X cdv A outer s H EE hX hr => ?_)
  subst hX
  have tk : Takes _ (wE EE) := takes_of (X := cxOf (CX P w) P w K mg base ["source", "many", "row", "choice"] "_law_spoilt_row" (defScope s__law_spoilt_row) (He.ga K "_law_spoilt_row") cdv A outer s H EE) rfl rfl rfl rfl
  have hp := passes_of (X := cxOf (CX P w) P w K mg base ["source", "many", "row", "choice"] "_law_spoilt_row" (defScope s__law_spoilt_row) (He.ga K "_law_spoilt_row") cdv A outer s H EE) rfl
  exact (fscons (fset (i := 3) sc.nd rfl (Or.inl rfl) (fcall hZ (ok__law_take E) ar__law_take (hr.mono (by decide)) tk E.g__law_take E.D__law_take.kp (b__law_take E) (facons (fv 0) (facons fint fanil)))) (fscons (fsif (teq hr.units (fv 3) fint) (fsone (fret (fidx (ftup (facons (fslice (fv 2) fono (foint fint)) (facons (fadd (fv 2) (flst (facons fint fanil))) (facons (flst fanil) (facons fnon (facons fstr (facons fint fanil))))))) (fcall hZ (ok__law_take E) ar__law_take (hr.mono (by decide)) tk E.g__law_take E.D__law_take.kp (b__law_take E) (facons (fv 0) (facons fint fanil)))))) fsnil) (fscons (fsif (teq hr.units (fv 3) fint) (fsone (fasg (fidx (ftup (facons (fv 1) (facons (fneg fint) (facons fbl (facons fnon (facons fstr (facons (fpow fint fint) (facons fbl fanil)))))))) (fcall hZ (ok__law_take E) ar__law_take (hr.mono (by decide)) tk E.g__law_take E.D__law_take.kp (b__law_take E) (facons (fv 0) (facons fint fanil)))) (fgsub (W := W0) (fv 2) (fcall hZ (ok__law_take E) ar__law_take (hr.mono (by decide)) takesW0 E.g__law_take E.D__law_take.kp (b__law_take E) (facons (fv 0) (facons fint fanil)))) nxSub)) (fsone (fsif (teq hr.units (fv 3) fint) (fsone (fasg (fidx (fv 2) fint) (fgsub (W := W0) (fv 2) fint) nxSub)) (fsone (fsif (teq hr.units (fv 3) fint) (fsone (fasg (fidx (ftup (facons fint (facons fint (facons fbl (facons (fneg fint) (facons fnon (facons fstr (facons (flst (facons fint fanil)) (facons (fpow fint fint) fanil))))))))) (fcall hZ (ok__law_take E) ar__law_take (hr.mono (by decide)) tk E.g__law_take E.D__law_take.kp (b__law_take E) (facons (fv 0) (facons fint fanil)))) (fgsub (W := W0) (fv 2) fint) nxSub)) (fsone (fset (i := 2) sc.nd rfl (Or.inl rfl) (flst (facons (fidx (fv 2) fint) (facons (fidx (fv 2) fint) (facons (fidx (fv 2) fint) fanil))))))))))) (fsone (fret (fv 2))))))
theorem sc__law_tupled : FnScope ["row"] ["row"] (defScope s__law_tupled) := ⟨rfl, rfl, rfl, by decide +kernel, rfl, by decide +kernel, by decide +kernel⟩
theorem b__law_tupled (E : EV K mg) : Binds K E.fd__law_tupled ["row"] [] := E.D__law_tupled.bindsN fun _ _ _ _ _ _ us hl => match us, hl with | [_], _ => rfl
theorem ok__law_tupled (E : EV K mg) : FnF P w K mg base 2 (He.ga K "_law_tupled") E.fd__law_tupled ["row"] F__law_tupled := by
  have sc := sc__law_tupled
  refine fnF_of (k := 1) E.D__law_tupled sc__law_tupled (fun Z hZ X cdv A outer s H EE hX hr => ?_)
  subst hX
  have tk : Takes _ (wE EE) := takes_of (X := cxOf (CX P w) P w K mg base ["row"] "_law_tupled" (defScope s__law_tupled) (He.ga K "_law_tupled") cdv A outer s H EE) rfl rfl rfl rfl
  have hp := passes_of (X := cxOf (CX P w) P w K mg base ["row"] "_law_tupled" (defScope s__law_tupled) (He.ga K "_law_tupled") cdv A outer s H EE) rfl
  exact (fscons (fsif (ft_val (fisList E.f_isinstance E.f_list (fv 0))) (fsone (fret (fctuple E.f_tuple (facons (fv 0) fanil)))) fsnil) (fsone (fret (fv 0))))
theorem sc__law_spoilt_load : FnScope ["source", "many", "load", "rows", "at", "choice", "row", "k", "triple", "a", "b"] ["source", "many", "load"] (defScope s__law_spoilt_load) := ⟨rfl, rfl, rfl, by decide +kernel, rfl, by decide +kernel, by decide +kernel⟩
theorem b__law_spoilt_load (E : EV K mg) : Binds K E.fd__law_spoilt_load ["source", "many", "load"] [] := E.D__law_spoilt_load.bindsN fun _ _ _ _ _ _ us hl => match us, hl with | [_, _, _], _ => rfl
theorem ok__law_spoilt_load (E : EV K mg) : FnF P w K mg base 4 (He.ga K "_law_spoilt_load") E.fd__law_spoilt_load ["source", "many", "load"] F__law_spoilt_load := by
  have sc := sc__law_spoilt_load
  refine fnF_of (k := 3) E.D__law_spoilt_load sc__law_spoilt_load (fun Z hZ X cdv A outer s H EE hX hr => ?_)
  subst hX
  have tk : Takes _ (wE EE) := takes_of (X := cxOf (CX P w) P w K mg base ["source", "many", "load", "rows", "at", "choice", "row", "k", "triple", "a", "b"] "_law_spoilt_load" (defScope s__law_spoilt_load) (He.ga K "_law_spoilt_load") cdv A outer s H EE) rfl rfl rfl rfl
  have hp := passes_of (X := cxOf (CX P w) P w K mg base ["source", "many", "load", "rows", "at", "choice", "row", "k", "triple", "a", "b"] "_law_spoilt_load" (defScope s__law_spoilt_load) (He.ga K "_law_spoilt_load") cdv A outer s H EE) rfl
  exact (fscons (fsetcomp (i := 3) hZ rfl sc.nd rfl rfl rfl (fiseq (fv 2)) (blkOk_by (own := [(("triple" : Str), 8)]) (by rfl)) (fun _ _ _ _ _ => (fwname (i := 8) sc.nd rfl (Or.inl rfl))) (fun _ _ _ _ _ => ftsnil) (fun _ _ _ _ _ => (fclist E.f_list (facons (fv 8) fanil)))) (fscons (fsif (teq hr.units (flen E.f_len (facons (fv 3) fanil)) fint) (fsone (fset (i := 3) sc.nd rfl (Or.inl rfl) (flst (facons (flst (facons fint (facons fint (facons (fadd fint (fcall hZ (ok__law_take E) ar__law_take (hr.mono (by decide)) tk E.g__law_take E.D__law_take.kp (b__law_take E) (facons (fv 0) (facons fint fanil)))) fanil)))) fanil)))) fsnil) (fscons (fset (i := 4) sc.nd rfl (Or.inl rfl) (fcall hZ (ok__law_take E) ar__law_take (hr.mono (by decide)) tk E.g__law_take E.D__law_take.kp (b__law_take E) (facons (fv 0) (facons (flen E.f_len (facons (fv 3) fanil)) fanil)))) (fscons (fset (i := 5) sc.nd rfl (Or.inl rfl) (fcall hZ (ok__law_take E) ar__law_take (hr.mono (by decide)) tk E.g__law_take E.D__law_take.kp (b__law_take E) (facons (fv 0) (facons fint fanil)))) (fscons (fsif (teq hr.units (fv 5) fint) (fsone (fret (ftup (facons (fidx (ftup (facons fint (facons fint (facons fint (facons (fneg fint) (facons fbl (facons fnon (facons fstr (facons (ftup (facons fint fanil)) (facons (fpow fint fint) fanil)))))))))) (fcall hZ (ok__law_take E) ar__law_take (hr.mono (by decide)) tk E.g__law_take E.D__law_take.kp (b__law_take E) (facons (fv 0) (facons fint fanil)))) (facons (fv 2) fanil))))) fsnil) (fscons (fsif (teq hr.units (fv 5) fint) (fsone (fret (ftup (facons (fv 1) (facons (fidx (ftup (facons fnon (facons fstr (facons fstr (facons fint (facons fbl (facons fbl fanil))))))) (fcall hZ (ok__law_take E) ar__law_take (hr.mono (by decide)) tk E.g__law_take E.D__law_take.kp (b__law_take E) (facons (fv 0) (facons fint fanil)))) fanil))))) fsnil) (fscons (fsif (tlt (fv 5) fint) (fsone (fasg (fcall hZ (ok__law_spoilt_row E) ar__law_spoilt_row (hr.mono (by decide)) tk E.g__law_spoilt_row E.D__law_spoilt_row.kp (b__law_spoilt_row E) (facons (fv 0) (facons (fv 1) (facons (fidx (fv 3) (fv 4)) fanil)))) (fgsub (W := W0) (fv 3) (fv 4)) nxSub)) (fsone (fsif (teq hr.units (fv 5) fint) (fsone (fexpr (fmeth oInsert PySem.F.slot_list_insert rfl mtInsert (fv 3) (facons (fv 4) (facons (fclist E.f_list (facons (fidx (fv 3) (fv 4)) fanil)) fanil))))) (fsone (fsif (ft_w (fw_and (teq hr.units (fv 5) fint) (fw_and1 (teq hr.units (fcall hZ (ok__law_take E) ar__law_take (hr.mono (by decide)) tk E.g__law_take E.D__law_take.kp (b__law_take E) (facons (fv 0) (facons fint fanil))) fint)))) (fsone (fset (i := 3) sc.nd rfl (Or.inl rfl) (fadd (fv 3) (flst (facons (fmeth oPopAt PySem.F.slot_list_pop rfl mt_popAt (fv 3) (facons (fv 4) fanil)) fanil))))) (fsone (fsif (teq hr.units (fv 5) fint) (fscons (fset (i := 6) sc.nd rfl (Or.inl rfl) (fidx (fv 3) (fv 4))) (fscons (fasg (fidx (fv 3) (fmax2 rfl E.f_max (facons fint (facons (fsub (fv 4) fint) fanil)))) (fgsub (W := W0) (fv 3) (fv 4)) nxSub) (fsone (fasg (fv 6) (fgsub (W := W0) (fv 3) (fmax2 rfl E.f_max (facons fint (facons (fsub (fv 4) fint) fanil)))) nxSub)))) (fscons (fsetcomp (i := 3) hZ rfl sc.nd rfl rfl rfl (fiseq (ftup (facons (ftup (facons fint (facons fint fanil))) (facons (ftup (facons fint (facons fint fanil))) (facons (ftup (facons fint (facons fint fanil))) (facons (ftup (facons fint (facons fint fanil))) (facons (ftup (facons fint (facons fint fanil))) fanil))))))) (blkOk_by (own := [(("a" : Str), 9), (("b" : Str), 10)]) (by rfl)) (fun _ _ _ _ _ => (fwtup rfl (fwcons (fwname (i := 9) sc.nd rfl (Or.inl rfl)) (fwcons (fwname (i := 10) sc.nd rfl (Or.inl rfl)) fwnil)))) (fun _ _ _ _ _ => ftsnil) (fun _ _ _ _ _ => (flst (facons (fv 9) (facons (fv 10) (facons (fsub fint (fmul (fadd (fv 9) (fv 10)) (fcall hZ (ok__law_take E) ar__law_take (hr.mono (by decide)) takesW0 E.g__law_take E.D__law_take.kp (b__law_take E) (facons (fv 0) (facons fint fanil))))) fanil)))))) (fscons (fset (i := 3) sc.nd rfl (Or.inl rfl) (fslice (fv 3) fono (foint (fadd fint (fcall hZ (ok__law_take E) ar__law_take (hr.mono (by decide)) tk E.g__law_take E.D__law_take.kp (b__law_take E) (facons (fv 0) (facons fint fanil))))))) (fsone (fsif (teq hr.units (fv 5) fint) (fscons (fset (i := 7) sc.nd rfl (Or.inl rfl) (fcall hZ (ok__law_take E) ar__law_take (hr.mono (by decide)) tk E.g__law_take E.D__law_take.kp (b__law_take E) (facons (fv 0) (facons (flen E.f_len (facons (fv 3) fanil)) fanil)))) (fsone (fasg (fcall hZ (ok__law_spoilt_row E) ar__law_spoilt_row (hr.mono (by decide)) tk E.g__law_spoilt_row E.D__law_spoilt_row.kp (b__law_spoilt_row E) (facons (fv 0) (facons (fv 1) (facons (fidx (fv 3) (fv 7)) fanil)))) (fgsub (W := W0) (fv 3) (fv 7)) nxSub))) fsnil))))))))))) (fscons (fsif (teq hr.units (fcall hZ (ok__law_take E) ar__law_take (hr.mono (by decide)) tk E.g__law_take E.D__law_take.kp (b__law_take E) (facons (fv 0) (facons fint fanil))) fint) (fsone (fret (ftup (facons (fv 1) (facons (fv 3) fanil))))) fsnil) (fsone (fret (ftup (facons (fv 1) (facons (fctuple E.f_tuple (facons (fcomp hZ rfl sc.nd (fiseq (fv 3)) (blkOk_by (own := [(("row" : Str), 6)]) (by rfl)) (fun _ _ _ _ _ => (fwname (i := 6) sc.nd rfl (Or.inl rfl))) (fun _ _ _ _ _ => ftsnil) (fun _ _ _ _ _ => (fcall hZ (ok__law_tupled E) ar__law_tupled (hr.mono (by decide)) takesW0 E.g__law_tupled E.D__law_tupled.kp (b__law_tupled E) (facons (fv 6) fanil)))) fanil)) fanil)))))))))))))
theorem sc__law_whole : FnScope ["one"] ["one"] (defScope s__law_whole) := ⟨rfl, rfl, rfl, by decide +kernel, rfl, by decide +kernel, by decide +kernel⟩
theorem b__law_whole (E : EV K mg) : Binds K E.fd__law_whole ["one"] [] := E.D__law_whole.bindsN fun _ _ _ _ _ _ us hl => match us, hl with | [_], _ => rfl
theorem ok__law_whole (E : EV K mg) : FnF P w K mg base 2 (He.ga K "_law_whole") E.fd__law_whole ["one"] F__law_whole := by
  have sc := sc__law_whole
  refine fnF_of (k := 1) E.D__law_whole sc__law_whole (fun Z hZ X cdv A outer s H EE hX hr => ?_)
  subst hX
  have tk : Takes _ (wE EE) := takes_of (X := cxOf (CX P w) P w K mg base ["one"] "_law_whole" (defScope s__law_whole) (He.ga K "_law_whole") cdv A outer s H EE) rfl rfl rfl rfl
  have hp := passes_of (X := cxOf (CX P w) P w K mg base ["one"] "_law_whole" (defScope s__law_whole) (He.ga K "_law_whole") cdv A outer s H EE) rfl
  exact (fsone (fret (fand (fisInt E.f_isinstance E.f_int (fv 0)) (fone (fnot (fisBool E.f_isinstance E.f_bool (fv 0)))))))
theorem sc__law_triple : FnScope ["many", "one", "part"] ["many", "one"] (defScope s__law_triple) := ⟨rfl, rfl, rfl, by decide +kernel, rfl, by decide +kernel, by decide +kernel⟩
theorem b__law_triple (E : EV K mg) : Binds K E.fd__law_triple ["many", "one"] [] := E.D__law_triple.bindsN fun _ _ _ _ _ _ us hl => match us, hl with | [_, _], _ => rfl
theorem ok__law_triple (E : EV K mg) : FnF P w K mg base 3 (He.ga K "_law_triple") E.fd__law_triple ["many", "one"] F__law_triple := by
  have sc := sc__law_triple
  refine fnF_of (k := 2) E.D__law_triple sc__law_triple (fun Z hZ X cdv A outer s H EE hX hr => ?_)
  subst hX
  have tk : Takes _ (wE EE) := takes_of (X := cxOf (CX P w) P w K mg base ["many", "one", "part"] "_law_triple" (defScope s__law_triple) (He.ga K "_law_triple") cdv A outer s H EE) rfl rfl rfl rfl
  have hp := passes_of (X := cxOf (CX P w) P w K mg base ["many", "one", "part"] "_law_triple" (defScope s__law_triple) (He.ga K "_law_triple") cdv A outer s H EE) rfl
  exact (fscons (fsif (ft_w (fw_or (ft_not (ft_val (fisTL E.f_isinstance E.f_tuple E.f_list (fv 1)))) (fw_or1 (tne hr.units (flen E.f_len (facons (fv 1) fanil)) fint)))) (fsone (fret fbl)) fsnil) (fscons (fsif (tgt (flen E.f_len (facons (fcomp hZ rfl sc.nd (fiseq (fv 1)) (blkOk_by (own := [(("part" : Str), 2)]) (by rfl)) (fun _ _ _ _ _ => (fwname (i := 2) sc.nd rfl (Or.inl rfl))) (fun _ _ _ _ _ => (ftsone (ft_not (ft_val (fcall hZ (ok__law_whole E) ar__law_whole (hr.mono (by decide)) takesW0 E.g__law_whole E.D__law_whole.kp (b__law_whole E) (facons (fv 2) fanil)))))) (fun _ _ _ _ _ => (fv 2))) fanil)) fint) (fsone (fret fbl)) fsnil) (fsone (fret (fand (fcleLt fint (fidx (fv 1) fint) (fv 0)) (fand (fcleLt fint (fidx (fv 1) fint) (fv 0)) (fand (fne hr.units (fidx (fv 1) fint) (fidx (fv 1) fint)) (fone (fcleLe fint (fidx (fv 1) fint) fint)))))))))
theorem sc__law_fault : FnScope ["many", "load", "last", "total", "k"] ["many", "load"] (defScope s__law_fault) := ⟨rfl, rfl, rfl, by decide +kernel, rfl, by decide +kernel, by decide +kernel⟩
theorem b__law_fault (E : EV K mg) : Binds K E.fd__law_fault ["many", "load"] [] := E.D__law_fault.bindsN fun _ _ _ _ _ _ us hl => match us, hl with | [_, _], _ => rfl
theorem ok__law_fault (E : EV K mg) : FnF P w K mg base 4 (He.ga K "_law_fault") E.fd__law_fault ["many", "load"] F__law_fault := by
  have sc := sc__law_fault
  refine fnF_of (k := 3) E.D__law_fault sc__law_fault (fun Z hZ X cdv A outer s H EE hX hr => ?_)
  subst hX
  have tk : Takes _ (wE EE) := takes_of (X := cxOf (CX P w) P w K mg base ["many", "load", "last", "total", "k"] "_law_fault" (defScope s__law_fault) (He.ga K "_law_fault") cdv A outer s H EE) rfl rfl rfl rfl
  have hp := passes_of (X := cxOf (CX P w) P w K mg base ["many", "load", "last", "total", "k"] "_law_fault" (defScope s__law_fault) (He.ga K "_law_fault") cdv A outer s H EE) rfl
  exact (fscons (fsif (ft_w (fw_or (ft_not (ft_val (fcall hZ (ok__law_whole E) ar__law_whole (hr.mono (by decide)) tk E.g__law_whole E.D__law_whole.kp (b__law_whole E) (facons (fv 0) fanil)))) (fw_or (tlt (fv 0) fint) (fw_or1 (tgt (fv 0) fint))))) (fsone (fret (ftup (facons fstr (facons (fv 0) fanil))))) fsnil) (fscons (fsif (ft_not (ft_val (fisTL E.f_isinstance E.f_tuple E.f_list (fv 1)))) (fsone (fret (ftup (facons fstr (facons fint fanil))))) fsnil) (fscons (fset (i := 2) sc.nd rfl (Or.inl rfl) (ftup (facons (fneg fint) (facons (fneg fint) fanil)))) (fscons (fset (i := 3) sc.nd rfl (Or.inl rfl) fint) (fscons (fsfor hp rfl (fir1 (by rfl) E.f_range (facons (flen E.f_len (facons (fv 1) fanil)) fanil)) (fgname (i := 4) sc.nd rfl (Or.inl rfl)) (nxName 4) (fscons (fsif (ft_w (fw_or (ft_not (ft_val (fcall hZ (ok__law_triple E) ar__law_triple (hr.mono (by decide)) tk E.g__law_triple E.D__law_triple.kp (b__law_triple E) (facons (fv 0) (facons (fidx (fv 1) (fv 4)) fanil))))) (fw_or1 (tleA hr.units (ftup (facons (fidx (fidx (fv 1) (fv 4)) fint) (facons (fidx (fidx (fv 1) (fv 4)) fint) fanil))) (fv 2))))) (fsone (fret (ftup (facons fstr (facons (fv 4) fanil))))) fsnil) (fscons (fset (i := 2) sc.nd rfl (Or.inl rfl) (ftup (facons (fidx (fidx (fv 1) (fv 4)) fint) (facons (fidx (fidx (fv 1) (fv 4)) fint) fanil)))) (fsone (fset (i := 3) sc.nd rfl (Or.inl rfl) (fadd (fv 3) (fidx (fidx (fv 1) (fv 4)) fint))))))) (fscons (fsif (tgt (fv 3) fint) (fsone (fret (ftup (facons fstr (facons (fv 3) fanil))))) fsnil) (fsone (fret fnon))))))))
theorem sc_is_integer : FnScope ["value"] ["value"] (defScope s_is_integer) := ⟨rfl, rfl, rfl, by decide +kernel, rfl, by decide +kernel, by decide +kernel⟩
theorem b_is_integer (E : EV K mg) : Binds K E.fd_is_integer ["value"] [] := E.D_is_integer.bindsN fun _ _ _ _ _ _ us hl => match us, hl with | [_], _ => rfl
theorem ok_is_integer (E : EV K mg) : FnF P w K mg base 2 (He.ga K "is_integer") E.fd_is_integer ["value"] F_is_integer := by
  have sc := sc_is_integer
  refine fnF_of (k := 1) E.D_is_integer sc_is_integer (fun Z hZ X cdv A outer s H EE hX hr => ?_)
  subst hX
  have tk : Takes _ (wE EE) := takes_of (X := cxOf (CX P w) P w K mg base ["value"] "is_integer" (defScope s_is_integer) (He.ga K "is_integer") cdv A outer s H EE) rfl rfl rfl rfl
  have hp := passes_of (X := cxOf (CX P w) P w K mg base ["value"] "is_integer" (defScope s_is_integer) (He.ga K "is_integer") cdv A outer s H EE) rfl
  exact (fsone (fret (fand (fisInt E.f_isinstance E.f_int (fv 0)) (fone (fnot (fisBool E.f_isinstance E.f_bool (fv 0)))))))
theorem sc_is_from_to : FnScope ["value", "least", "most"] ["value", "least", "most"] (defScope s_is_from_to) := ⟨rfl, rfl, rfl, by decide +kernel, rfl, by decide +kernel, by decide +kernel⟩
theorem b_is_from_to (E : EV K mg) : Binds K E.fd_is_from_to ["value", "least", "most"] [] := E.D_is_from_to.bindsN fun _ _ _ _ _ _ us hl => match us, hl with | [_, _, _], _ => rfl
theorem ok_is_from_to (E : EV K mg) : FnF P w K mg base 3 (He.ga K "is_from_to") E.fd_is_from_to ["value", "least", "most"] F_is_from_to := by
  have sc := sc_is_from_to
  refine fnF_of (k := 2) E.D_is_from_to sc_is_from_to (fun Z hZ X cdv A outer s H EE hX hr => ?_)
  subst hX
  have tk : Takes _ (wE EE) := takes_of (X := cxOf (CX P w) P w K mg base ["value", "least", "most"] "is_from_to" (defScope s_is_from_to) (He.ga K "is_from_to") cdv A outer s H EE) rfl rfl rfl rfl
  have hp := passes_of (X := cxOf (CX P w) P w K mg base ["value", "least", "most"] "is_from_to" (defScope s_is_from_to) (He.ga K "is_from_to") cdv A outer s H EE) rfl
  exact (fsone (fret (fand (fcall hZ (ok_is_integer E) ar_is_integer (hr.mono (by decide)) tk E.g_is_integer E.D_is_integer.kp (b_is_integer E) (facons (fv 0) fanil)) (fone (fcleLe (fv 1) (fv 0) (fv 2))))))
theorem sc_check_number : FnScope ["value", "least", "most"] ["value", "least", "most"] (defScope s_check_number) := ⟨rfl, rfl, rfl, by decide +kernel, rfl, by decide +kernel, by decide +kernel⟩
theorem b_check_number (E : EV K mg) : Binds K E.fd_check_number ["value", "least", "most"] [] := E.D_check_number.bindsN fun _ _ _ _ _ _ us hl => match us, hl with | [_, _, _], _ => rfl
theorem ok_check_number (E : EV K mg) : FnF P w K mg base 4 (He.ga K "check_number") E.fd_check_number ["value", "least", "most"] F_check_number := by
  have sc := sc_check_number
  refine fnF_of (k := 3) E.D_check_number sc_check_number (fun Z hZ X cdv A outer s H EE hX hr => ?_)
  subst hX
  have tk : Takes _ (wE EE) := takes_of (X := cxOf (CX P w) P w K mg base ["value", "least", "most"] "check_number" (defScope s_check_number) (He.ga K "check_number") cdv A outer s H EE) rfl rfl rfl rfl
  have hp := passes_of (X := cxOf (CX P w) P w K mg base ["value", "least", "most"] "check_number" (defScope s_check_number) (He.ga K "check_number") cdv A outer s H EE) rfl
  exact (fsone (fsif (ft_not (ft_val (fcall hZ (ok_is_from_to E) ar_is_from_to (hr.mono (by decide)) tk E.g_is_from_to E.D_is_from_to.kp (b_is_from_to E) (facons (fv 0) (facons (fv 1) (facons (fv 2) fanil)))))) (fsone (fraise E.x_InvalidNumber (okx_InvalidNumber E) (by decide) (bx_InvalidNumber E) (hr.mono (by decide)) rfl tk (facons (fv 0) fanil))) fsnil))
theorem sc_is_triple : FnScope ["many", "value", "sender", "receiver", "numbers"] ["many", "value"] (defScope s_is_triple) := ⟨rfl, rfl, rfl, by decide +kernel, rfl, by decide +kernel, by decide +kernel⟩
theorem b_is_triple (E : EV K mg) : Binds K E.fd_is_triple ["many", "value"] [] := E.D_is_triple.bindsN fun _ _ _ _ _ _ us hl => match us, hl with | [_, _], _ => rfl
theorem ok_is_triple (E : EV K mg) : FnF P w K mg base 4 (He.ga K "is_triple") E.fd_is_triple ["many", "value"] F_is_triple := by
  have sc := sc_is_triple
  refine fnF_of (k := 3) E.D_is_triple sc_is_triple (fun Z hZ X cdv A outer s H EE hX hr => ?_)
  subst hX
  have tk : Takes _ (wE EE) := takes_of (X := cxOf (CX P w) P w K mg base ["many", "value", "sender", "receiver", "numbers"] "is_triple" (defScope s_is_triple) (He.ga K "is_triple") cdv A outer s H EE) rfl rfl rfl rfl
  have hp := passes_of (X := cxOf (CX P w) P w K mg base ["many", "value", "sender", "receiver", "numbers"] "is_triple" (defScope s_is_triple) (He.ga K "is_triple") cdv A outer s H EE) rfl
  exact (fscons (fsif (ft_w (fw_or (ft_not (ft_val (fisTL E.f_isinstance E.f_tuple E.f_list (fv 1)))) (fw_or1 (tne hr.units (flen E.f_len (facons (fv 1) fanil)) fint)))) (fsone (fret fbl)) fsnil) (fscons (fasg (fv 1) (fgsq rfl (fgcons (fgname (i := 2) sc.nd rfl (Or.inl rfl)) (fgcons (fgname (i := 3) sc.nd rfl (Or.inl rfl)) (fgcons (fgname (i := 4) sc.nd rfl (Or.inl rfl)) fgnil)))) (nxSq (nxCons (nxName 2) (nxCons (nxName 3) (nxCons (nxName 4) nxNil))))) (fscons (fsif (ft_w (fw_or (ft_not (ft_val (fcall hZ (ok_is_from_to E) ar_is_from_to (hr.mono (by decide)) tk E.g_is_from_to E.D_is_from_to.kp (b_is_from_to E) (facons (fv 2) (facons fint (facons (fsub (fv 0) fint) fanil)))))) (fw_or1 (ft_not (ft_val (fcall hZ (ok_is_from_to E) ar_is_from_to (hr.mono (by decide)) tk E.g_is_from_to E.D_is_from_to.kp (b_is_from_to E) (facons (fv 3) (facons fint (facons (fsub (fv 0) fint) fanil))))))))) (fsone (fret fbl)) fsnil) (fsone (fret (fand (fne hr.units (fv 2) (fv 3)) (fone (fcall hZ (ok_is_from_to E) ar_is_from_to (hr.mono (by decide)) tk E.g_is_from_to E.D_is_from_to.kp (b_is_from_to E) (facons (fv 4) (facons fint (facons (fglobI rfl E.c_MOST_OF_ONE) fanil)))))))))))
theorem sc_checked_load : FnScope ["many", "load", "found", "place", "triple", "total", "_", "numbers"] ["many", "load"] (defScope s_checked_load) := ⟨rfl, rfl, rfl, by decide +kernel, rfl, by decide +kernel, by decide +kernel⟩
theorem b_checked_load (E : EV K mg) : Binds K E.fd_checked_load ["many", "load"] [] := E.D_checked_load.bindsN fun _ _ _ _ _ _ us hl => match us, hl with | [_, _], _ => rfl
theorem ok_checked_load (E : EV K mg) : FnF P w K mg base 5 (He.ga K "checked_load") E.fd_checked_load ["many", "load"] F_checked_load := by
  have sc := sc_checked_load
  refine fnF_of (k := 4) E.D_checked_load sc_checked_load (fun Z hZ X cdv A outer s H EE hX hr => ?_)
  subst hX
  have tk : Takes _ (wE EE) := takes_of (X := cxOf (CX P w) P w K mg base ["many", "load", "found", "place", "triple", "total", "_", "numbers"] "checked_load" (defScope s_checked_load) (He.ga K "checked_load") cdv A outer s H EE) rfl rfl rfl rfl
  have hp := passes_of (X := cxOf (CX P w) P w K mg base ["many", "load", "found", "place", "triple", "total", "_", "numbers"] "checked_load" (defScope s_checked_load) (He.ga K "checked_load") cdv A outer s H EE) rfl
  exact (fscons (fexpr (fcall hZ (ok_check_number E) ar_check_number (hr.mono (by decide)) tk E.g_check_number E.D_check_number.kp (b_check_number E) (facons (fv 0) (facons fint (facons (fglobI rfl E.c_MOST_MACHINES) fanil))))) (fscons (fsif (ft_not (ft_val (fisTL E.f_isinstance E.f_tuple E.f_list (fv 1)))) (fsone (fraise E.x_InvalidLoad (okx_InvalidLoad E) (by decide) (bx_InvalidLoad E) (hr.mono (by decide)) rfl tk (facons fint fanil))) fsnil) (fscons (fset (i := 2) sc.nd rfl (Or.inl rfl) (flst fanil)) (fscons (fsfor hp rfl (fienum E.f_enumerate (facons (fv 1) fanil)) (fgtup rfl (fgcons (fgname (i := 3) sc.nd rfl (Or.inl rfl)) (fgcons (fgname (i := 4) sc.nd rfl (Or.inl rfl)) fgnil))) (nxTup (nxCons (nxName 3) (nxCons (nxName 4) nxNil))) (fscons (fsif (ft_not (ft_val (fcall hZ (ok_is_triple E) ar_is_triple (hr.mono (by decide)) tk E.g_is_triple E.D_is_triple.kp (b_is_triple E) (facons (fv 0) (facons (fv 4) fanil))))) (fsone (fraise E.x_InvalidLoad (okx_InvalidLoad E) (by decide) (bx_InvalidLoad E) (hr.mono (by decide)) rfl tk (facons (fv 3) fanil))) fsnil) (fscons (fsif (ft_w (fw_and (tgt (flen E.f_len (facons (fv 2) fanil)) fint) (fw_and1 (tleA hr.units (fctuple E.f_tuple (facons (fslice (fv 4) fono (foint fint)) fanil)) (fslice (fidx (fv 2) (fneg fint)) fono (foint fint)))))) (fsone (fraise E.x_InvalidLoad (okx_InvalidLoad E) (by decide) (bx_InvalidLoad E) (hr.mono (by decide)) rfl tk (facons (fv 3) fanil))) fsnil) (fsone (fexpr (fmeth oAppend PySem.F.slot_list_append rfl mt_append (fv 2) (facons (fctuple E.f_tuple (facons (fv 4) fanil)) fanil))))))) (fscons (fset (i := 5) sc.nd rfl (Or.inl rfl) (fsum rfl E.f_sum (facons (fcomp hZ rfl sc.nd (fiseq (fv 2)) (blkOk_by (own := [(("_" : Str), 6), (("_" : Str), 6), (("numbers" : Str), 7)]) (by rfl)) (fun _ _ _ _ _ => (fwtup rfl (fwcons (fwname (i := 6) sc.nd rfl (Or.inl rfl)) (fwcons (fwname (i := 6) sc.nd rfl (Or.inl rfl)) (fwcons (fwname (i := 7) sc.nd rfl (Or.inl rfl)) fwnil))))) (fun _ _ _ _ _ => ftsnil) (fun _ _ _ _ _ => (fv 7))) fanil))) (fscons (fsif (tgt (fv 5) (fglobI rfl E.c_MOST_NUMBERS)) (fsone (fraise E.x_TooMany (okx_TooMany E) (by decide) (bx_TooMany E) (hr.mono (by decide)) rfl tk (facons (fv 5) fanil))) fsnil) (fsone (fret (fctuple E.f_tuple (facons (fv 2) fanil))))))))))
theorem sc_check_machine : FnScope ["many", "machine"] ["many", "machine"] (defScope s_check_machine) := ⟨rfl, rfl, rfl, by decide +kernel, rfl, by decide +kernel, by decide +kernel⟩
theorem b_check_machine (E : EV K mg) : Binds K E.fd_check_machine ["many", "machine"] [] := E.D_check_machine.bindsN fun _ _ _ _ _ _ us hl => match us, hl with | [_, _], _ => rfl
theorem ok_check_machine (E : EV K mg) : FnF P w K mg base 4 (He.ga K "check_machine") E.fd_check_machine ["many", "machine"] F_check_machine := by
  have sc := sc_check_machine
  refine fnF_of (k := 3) E.D_check_machine sc_check_machine (fun Z hZ X cdv A outer s H EE hX hr => ?_)
  subst hX
  have tk : Takes _ (wE EE) := takes_of (X := cxOf (CX P w) P w K mg base ["many", "machine"] "check_machine" (defScope s_check_machine) (He.ga K "check_machine") cdv A outer s H EE) rfl rfl rfl rfl
  have hp := passes_of (X := cxOf (CX P w) P w K mg base ["many", "machine"] "check_machine" (defScope s_check_machine) (He.ga K "check_machine") cdv A outer s H EE) rfl
  exact (fsone (fsif (ft_not (ft_val (fcall hZ (ok_is_from_to E) ar_is_from_to (hr.mono (by decide)) tk E.g_is_from_to E.D_is_from_to.kp (b_is_from_to E) (facons (fv 1) (facons fint (facons (fsub (fv 0) fint) fanil)))))) (fsone (fraise E.x_NoMachine (okx_NoMachine E) (by decide) (bx_NoMachine E) (hr.mono (by decide)) rfl tk (facons (fv 1) fanil))) fsnil))
theorem sc_sums_got : FnScope ["many", "triples", "found", "_", "receiver", "numbers"] ["many", "triples"] (defScope s_sums_got) := ⟨rfl, rfl, rfl, by decide +kernel, rfl, by decide +kernel, by decide +kernel⟩
theorem b_sums_got (E : EV K mg) : Binds K E.fd_sums_got ["many", "triples"] [] := E.D_sums_got.bindsN fun _ _ _ _ _ _ us hl => match us, hl with | [_, _], _ => rfl
theorem ok_sums_got (E : EV K mg) : FnF P w K mg base 2 (He.ga K "sums_got") E.fd_sums_got ["many", "triples"] F_sums_got := by
  have sc := sc_sums_got
  refine fnF_of (k := 1) E.D_sums_got sc_sums_got (fun Z hZ X cdv A outer s H EE hX hr => ?_)
  subst hX
  have tk : Takes _ (wE EE) := takes_of (X := cxOf (CX P w) P w K mg base ["many", "triples", "found", "_", "receiver", "numbers"] "sums_got" (defScope s_sums_got) (He.ga K "sums_got") cdv A outer s H EE) rfl rfl rfl rfl
  have hp := passes_of (X := cxOf (CX P w) P w K mg base ["many", "triples", "found", "_", "receiver", "numbers"] "sums_got" (defScope s_sums_got) (He.ga K "sums_got") cdv A outer s H EE) rfl
  exact (fscons (fset (i := 2) sc.nd rfl (Or.inl rfl) (fmul (flst (facons fint fanil)) (fv 0))) (fscons (fsfor hp rfl (fiseq (fv 1)) (fgtup rfl (fgcons (fgname (i := 3) sc.nd rfl (Or.inl rfl)) (fgcons (fgname (i := 4) sc.nd rfl (Or.inl rfl)) (fgcons (fgname (i := 5) sc.nd rfl (Or.inl rfl)) fgnil)))) (nxTup (nxCons (nxName 3) (nxCons (nxName 4) (nxCons (nxName 5) nxNil)))) (fsone (faugSubAdd (fv 2) (fv 4) (fv 5)))) (fsone (fret (fv 2)))))
theorem sc_got_of : FnScope ["many", "load", "machine", "triples"] ["many", "load", "machine"] (defScope s_got_of) := ⟨rfl, rfl, rfl, by decide +kernel, rfl, by decide +kernel, by decide +kernel⟩
theorem b_got_of (E : EV K mg) : Binds K E.fd_got_of ["many", "load", "machine"] [] := E.D_got_of.bindsN fun _ _ _ _ _ _ us hl => match us, hl with | [_, _, _], _ => rfl
theorem ok_got_of (E : EV K mg) : FnF P w K mg base 6 (He.ga K "got_of") E.fd_got_of ["many", "load", "machine"] F_got_of := by
  have sc := sc_got_of
  refine fnF_of (k := 5) E.D_got_of sc_got_of (fun Z hZ X cdv A outer s H EE hX hr => ?_)
  subst hX
  have tk : Takes _ (wE EE) := takes_of (X := cxOf (CX P w) P w K mg base ["many", "load", "machine", "triples"] "got_of" (defScope s_got_of) (He.ga K "got_of") cdv A outer s H EE) rfl rfl rfl rfl
  have hp := passes_of (X := cxOf (CX P w) P w K mg base ["many", "load", "machine", "triples"] "got_of" (defScope s_got_of) (He.ga K "got_of") cdv A outer s H EE) rfl
  exact (fscons (fset (i := 3) sc.nd rfl (Or.inl rfl) (fcall hZ (ok_checked_load E) ar_checked_load (hr.mono (by decide)) tk E.g_checked_load E.D_checked_load.kp (b_checked_load E) (facons (fv 0) (facons (fv 1) fanil)))) (fscons (fexpr (fcall hZ (ok_check_machine E) ar_check_machine (hr.mono (by decide)) tk E.g_check_machine E.D_check_machine.kp (b_check_machine E) (facons (fv 0) (facons (fv 2) fanil)))) (fsone (fret (fidx (fcall hZ (ok_sums_got E) ar_sums_got (hr.mono (by decide)) tk E.g_sums_got E.D_sums_got.kp (b_sums_got E) (facons (fv 0) (facons (fv 3) fanil))) (fv 2))))))
theorem sc_sums_said : FnScope ["many", "triples", "found", "sender", "_", "numbers"] ["many", "triples"] (defScope s_sums_said) := ⟨rfl, rfl, rfl, by decide +kernel, rfl, by decide +kernel, by decide +kernel⟩
theorem b_sums_said (E : EV K mg) : Binds K E.fd_sums_said ["many", "triples"] [] := E.D_sums_said.bindsN fun _ _ _ _ _ _ us hl => match us, hl with | [_, _], _ => rfl
theorem ok_sums_said (E : EV K mg) : FnF P w K mg base 2 (He.ga K "sums_said") E.fd_sums_said ["many", "triples"] F_sums_said := by
  have sc := sc_sums_said
  refine fnF_of (k := 1) E.D_sums_said sc_sums_said (fun Z hZ X cdv A outer s H EE hX hr => ?_)
  subst hX
  have tk : Takes _ (wE EE) := takes_of (X := cxOf (CX P w) P w K mg base ["many", "triples", "found", "sender", "_", "numbers"] "sums_said" (defScope s_sums_said) (He.ga K "sums_said") cdv A outer s H EE) rfl rfl rfl rfl
  have hp := passes_of (X := cxOf (CX P w) P w K mg base ["many", "triples", "found", "sender", "_", "numbers"] "sums_said" (defScope s_sums_said) (He.ga K "sums_said") cdv A outer s H EE) rfl
  exact (fscons (fset (i := 2) sc.nd rfl (Or.inl rfl) (fmul (flst (facons fint fanil)) (fv 0))) (fscons (fsfor hp rfl (fiseq (fv 1)) (fgtup rfl (fgcons (fgname (i := 3) sc.nd rfl (Or.inl rfl)) (fgcons (fgname (i := 4) sc.nd rfl (Or.inl rfl)) (fgcons (fgname (i := 5) sc.nd rfl (Or.inl rfl)) fgnil)))) (nxTup (nxCons (nxName 3) (nxCons (nxName 4) (nxCons (nxName 5) nxNil)))) (fsone (faugSubAdd (fv 2) (fv 3) (fv 5)))) (fsone (fret (fv 2)))))
theorem sc_greatest_sum : FnScope ["many", "triples"] ["many", "triples"] (defScope s_greatest_sum) := ⟨rfl, rfl, rfl, by decide +kernel, rfl, by decide +kernel, by decide +kernel⟩
theorem b_greatest_sum (E : EV K mg) : Binds K E.fd_greatest_sum ["many", "triples"] [] := E.D_greatest_sum.bindsN fun _ _ _ _ _ _ us hl => match us, hl with | [_, _], _ => rfl
theorem ok_greatest_sum (E : EV K mg) : FnF P w K mg base 3 (He.ga K "greatest_sum") E.fd_greatest_sum ["many", "triples"] F_greatest_sum := by
  have sc := sc_greatest_sum
  refine fnF_of (k := 2) E.D_greatest_sum sc_greatest_sum (fun Z hZ X cdv A outer s H EE hX hr => ?_)
  subst hX
  have tk : Takes _ (wE EE) := takes_of (X := cxOf (CX P w) P w K mg base ["many", "triples"] "greatest_sum" (defScope s_greatest_sum) (He.ga K "greatest_sum") cdv A outer s H EE) rfl rfl rfl rfl
  have hp := passes_of (X := cxOf (CX P w) P w K mg base ["many", "triples"] "greatest_sum" (defScope s_greatest_sum) (He.ga K "greatest_sum") cdv A outer s H EE) rfl
  exact (fsone (fret (fmax rfl E.f_max (facons (fadd (fcall hZ (ok_sums_said E) ar_sums_said (hr.mono (by decide)) tk E.g_sums_said E.D_sums_said.kp (b_sums_said E) (facons (fv 0) (facons (fv 1) fanil))) (fcall hZ (ok_sums_got E) ar_sums_got (hr.mono (by decide)) tk E.g_sums_got E.D_sums_got.kp (b_sums_got E) (facons (fv 0) (facons (fv 1) fanil)))) fanil))))
theorem sc_busiest : FnScope ["many", "load", "triples", "most", "said", "got", "machine"] ["many", "load"] (defScope s_busiest) := ⟨rfl, rfl, rfl, by decide +kernel, rfl, by decide +kernel, by decide +kernel⟩
theorem b_busiest (E : EV K mg) : Binds K E.fd_busiest ["many", "load"] [] := E.D_busiest.bindsN fun _ _ _ _ _ _ us hl => match us, hl with | [_, _], _ => rfl
theorem ok_busiest (E : EV K mg) : FnF P w K mg base 6 (He.ga K "busiest") E.fd_busiest ["many", "load"] F_busiest := by
  have sc := sc_busiest
  refine fnF_of (k := 5) E.D_busiest sc_busiest (fun Z hZ X cdv A outer s H EE hX hr => ?_)
  subst hX
  have tk : Takes _ (wE EE) := takes_of (X := cxOf (CX P w) P w K mg base ["many", "load", "triples", "most", "said", "got", "machine"] "busiest" (defScope s_busiest) (He.ga K "busiest") cdv A outer s H EE) rfl rfl rfl rfl
  have hp := passes_of (X := cxOf (CX P w) P w K mg base ["many", "load", "triples", "most", "said", "got", "machine"] "busiest" (defScope s_busiest) (He.ga K "busiest") cdv A outer s H EE) rfl
  exact (fscons (fset (i := 2) sc.nd rfl (Or.inl rfl) (fcall hZ (ok_checked_load E) ar_checked_load (hr.mono (by decide)) tk E.g_checked_load E.D_checked_load.kp (b_checked_load E) (facons (fv 0) (facons (fv 1) fanil)))) (fscons (fset (i := 3) sc.nd rfl (Or.inl rfl) (fcall hZ (ok_greatest_sum E) ar_greatest_sum (hr.mono (by decide)) tk E.g_greatest_sum E.D_greatest_sum.kp (b_greatest_sum E) (facons (fv 0) (facons (fv 2) fanil)))) (fscons (fset (i := 4) sc.nd rfl (Or.inl rfl) (fcall hZ (ok_sums_said E) ar_sums_said (hr.mono (by decide)) tk E.g_sums_said E.D_sums_said.kp (b_sums_said E) (facons (fv 0) (facons (fv 2) fanil)))) (fscons (fset (i := 5) sc.nd rfl (Or.inl rfl) (fcall hZ (ok_sums_got E) ar_sums_got (hr.mono (by decide)) tk E.g_sums_got E.D_sums_got.kp (b_sums_got E) (facons (fv 0) (facons (fv 2) fanil)))) (fscons (fsfor hp rfl (fir1 (by rfl) E.f_range (facons (fv 0) fanil)) (fgname (i := 6) sc.nd rfl (Or.inl rfl)) (nxName 6) (fscons (fsif (teq hr.units (fidx (fv 4) (fv 6)) (fv 3)) (fsone (fret (ftup (facons (fv 3) (facons (fglobS rfl E.c_SAYS) (facons (fv 6) fanil)))))) fsnil) (fsone (fsif (teq hr.units (fidx (fv 5) (fv 6)) (fv 3)) (fsone (fret (ftup (facons (fv 3) (facons (fglobS rfl E.c_GETS) (facons (fv 6) fanil)))))) fsnil)))) (fsone (fret (ftup (facons (fv 3) (facons (fglobS rfl E.c_SAYS) (facons fint fanil)))))))))))
theorem sc_said_of : FnScope ["many", "load", "machine", "triples"] ["many", "load", "machine"] (defScope s_said_of) := ⟨rfl, rfl, rfl, by decide +kernel, rfl, by decide +kernel, by decide +kernel⟩
theorem b_said_of (E : EV K mg) : Binds K E.fd_said_of ["many", "load", "machine"] [] := E.D_said_of.bindsN fun _ _ _ _ _ _ us hl => match us, hl with | [_, _, _], _ => rfl
theorem ok_said_of (E : EV K mg) : FnF P w K mg base 6 (He.ga K "said_of") E.fd_said_of ["many", "load", "machine"] F_said_of := by
  have sc := sc_said_of
  refine fnF_of (k := 5) E.D_said_of sc_said_of (fun Z hZ X cdv A outer s H EE hX hr => ?_)
  subst hX
  have tk : Takes _ (wE EE) := takes_of (X := cxOf (CX P w) P w K mg base ["many", "load", "machine", "triples"] "said_of" (defScope s_said_of) (He.ga K "said_of") cdv A outer s H EE) rfl rfl rfl rfl
  have hp := passes_of (X := cxOf (CX P w) P w K mg base ["many", "load", "machine", "triples"] "said_of" (defScope s_said_of) (He.ga K "said_of") cdv A outer s H EE) rfl
  exact (fscons (fset (i := 3) sc.nd rfl (Or.inl rfl) (fcall hZ (ok_checked_load E) ar_checked_load (hr.mono (by decide)) tk E.g_checked_load E.D_checked_load.kp (b_checked_load E) (facons (fv 0) (facons (fv 1) fanil)))) (fscons (fexpr (fcall hZ (ok_check_machine E) ar_check_machine (hr.mono (by decide)) tk E.g_check_machine E.D_check_machine.kp (b_check_machine E) (facons (fv 0) (facons (fv 2) fanil)))) (fsone (fret (fidx (fcall hZ (ok_sums_said E) ar_sums_said (hr.mono (by decide)) tk E.g_sums_said E.D_sums_said.kp (b_sums_said E) (facons (fv 0) (facons (fv 3) fanil))) (fv 2))))))
theorem sc__law_call : FnScope ["word", "many", "load", "machine"] ["word", "many", "load", "machine"] (defScope s__law_call) := ⟨rfl, rfl, rfl, by decide +kernel, rfl, by decide +kernel, by decide +kernel⟩
theorem b__law_call (E : EV K mg) : Binds K E.fd__law_call ["word", "many", "load", "machine"] [] := E.D__law_call.bindsN fun _ _ _ _ _ _ us hl => match us, hl with | [_, _, _, _], _ => rfl
theorem ok__law_call (E : EV K mg) : FnF P w K mg base 7 (He.ga K "_law_call") E.fd__law_call ["word", "many", "load", "machine"] F__law_call := by
  have sc := sc__law_call
  refine fnF_of (k := 6) E.D__law_call sc__law_call (fun Z hZ X cdv A outer s H EE hX hr => ?_)
  subst hX
  have tk : Takes _ (wE EE) := takes_of (X := cxOf (CX P w) P w K mg base ["word", "many", "load", "machine"] "_law_call" (defScope s__law_call) (He.ga K "_law_call") cdv A outer s H EE) rfl rfl rfl rfl
  have hp := passes_of (X := cxOf (CX P w) P w K mg base ["word", "many", "load", "machine"] "_law_call" (defScope s__law_call) (He.ga K "_law_call") cdv A outer s H EE) rfl
  exact (fscons (fsif (teq hr.units (fv 0) fstr) (fsone (fret (fcall hZ (ok_busiest E) ar_busiest (hr.mono (by decide)) tk E.g_busiest E.D_busiest.kp (b_busiest E) (facons (fv 1) (facons (fv 2) fanil))))) fsnil) (fscons (fsif (teq hr.units (fv 0) fstr) (fsone (fret (fcall hZ (ok_said_of E) ar_said_of (hr.mono (by decide)) tk E.g_said_of E.D_said_of.kp (b_said_of E) (facons (fv 1) (facons (fv 2) (facons (fv 3) fanil)))))) fsnil) (fsone (fret (fcall hZ (ok_got_of E) ar_got_of (hr.mono (by decide)) tk E.g_got_of E.D_got_of.kp (b_got_of E) (facons (fv 1) (facons (fv 2) (facons (fv 3) fanil))))))))
theorem sc__law_told : FnScope ["word", "many", "load", "machine", "e"] ["word", "many", "load", "machine"] (defScope s__law_told) := ⟨rfl, rfl, rfl, by decide +kernel, rfl, by decide +kernel, by decide +kernel⟩
theorem b__law_told (E : EV K mg) : Binds K E.fd__law_told ["word", "many", "load", "machine"] [] := E.D__law_told.bindsN fun _ _ _ _ _ _ us hl => match us, hl with | [_, _, _, _], _ => rfl
theorem ok__law_told (E : EV K mg) : FnF P w K mg base 8 (He.ga K "_law_told") E.fd__law_told ["word", "many", "load", "machine"] F__law_told := by
  have sc := sc__law_told
  refine fnF_of (k := 7) E.D__law_told sc__law_told (fun Z hZ X cdv A outer s H EE hX hr => ?_)
  subst hX
  have tk : Takes _ (wE EE) := takes_of (X := cxOf (CX P w) P w K mg base ["word", "many", "load", "machine", "e"] "_law_told" (defScope s__law_told) (He.ga K "_law_told") cdv A outer s H EE) rfl rfl rfl rfl
  have hp := passes_of (X := cxOf (CX P w) P w K mg base ["word", "many", "load", "machine", "e"] "_law_told" (defScope s__law_told) (He.ga K "_law_told") cdv A outer s H EE) rfl
  exact (fsone (fstry (t := exT) hZ rfl rfl sc.nd tk (fun W2 pn2 xe2 tk2 hp2 => (fsone (fret (ftup (facons fstr (facons (fcall hZ (ok__law_call E) ar__law_call (hr.mono (by decide)) tk2 E.g__law_call E.D__law_call.kp (b__law_call E) (facons (fv 0) (facons (fv 1) (facons (fv 2) (facons (fv 3) fanil))))) fanil)))))) (.as (⟨rfl, by decide, .inl E.g_InvalidNumber⟩) (E.ex.hx (by decide)) (i := 4) rfl rfl (fun a oe c fs dd pn hc hz hf => (fscons (fsif (ft_w (fw_or (ft_val (fxisT (i := 4) (E.ex.xi c hc) hz hf E.f_isinstance (pcs_cons (pe_glob (v := .ref (He.ga K "InvalidLoad")) rfl E.g_InvalidLoad rfl (by decide)) (pcs_cons (pe_glob (v := .ref (He.ga K "NoMachine")) rfl E.g_NoMachine rfl (by decide)) (pcs_cons (pe_glob (v := .ref (He.ga K "TooMany")) rfl E.g_TooMany rfl (by decide)) pcs_nil))) (paired_own ["InvalidLoad", "NoMachine", "TooMany"]) (E.ex.kit c hc ["InvalidLoad", "NoMachine", "TooMany"] (by decide)) (by show 3 ≤ sizeLine; rw [line_eq]; decide))) (fw_or1 (ft_not (ft_val (fxis1 (i := 4) (E.ex.xi c hc) hz hf E.f_isinstance (pe_glob (v := .ref _) rfl E.g_DealError rfl (by decide)) (.own _) (E.ex.kit1 hc (by decide)))))))) (fsone (fret (ftup (facons fstr (facons fint fanil))))) fsnil) (fsone (fret (ftup (facons fstr (facons (fxf (i := 4) (E.ex.xi c hc).xf (E.ex.no c hc _ (by decide)) hz hf) fanil))))))) (.as (⟨rfl, by decide, .inl E.g_InvalidLoad⟩) (E.ex.hx (by decide)) (i := 4) rfl rfl (fun a oe c fs dd pn hc hz hf => (fscons (fsif (ft_w (fw_or (ft_val (fxisT (i := 4) (E.ex.xi c hc) hz hf E.f_isinstance (pcs_cons (pe_glob (v := .ref (He.ga K "NoMachine")) rfl E.g_NoMachine rfl (by decide)) (pcs_cons (pe_glob (v := .ref (He.ga K "TooMany")) rfl E.g_TooMany rfl (by decide)) pcs_nil)) (paired_own ["NoMachine", "TooMany"]) (E.ex.kit c hc ["NoMachine", "TooMany"] (by decide)) (by show 2 ≤ sizeLine; rw [line_eq]; decide))) (fw_or1 (ft_not (ft_val (fxis1 (i := 4) (E.ex.xi c hc) hz hf E.f_isinstance (pe_glob (v := .ref _) rfl E.g_DealError rfl (by decide)) (.own _) (E.ex.kit1 hc (by decide)))))))) (fsone (fret (ftup (facons fstr (facons fint fanil))))) fsnil) (fsone (fret (ftup (facons fstr (facons (fxf (i := 4) (E.ex.xi c hc).xf (E.ex.no c hc _ (by decide)) hz hf) fanil))))))) (.as (⟨rfl, by decide, .inl E.g_TooMany⟩) (E.ex.hx (by decide)) (i := 4) rfl rfl (fun a oe c fs dd pn hc hz hf => (fscons (fsif (ft_w (fw_or (ft_val (fxis1 (i := 4) (E.ex.xi c hc) hz hf E.f_isinstance (pe_glob (v := .ref _) rfl E.g_NoMachine rfl (by decide)) (.own _) (E.ex.kit1 hc (by decide)))) (fw_or1 (ft_not (ft_val (fxis1 (i := 4) (E.ex.xi c hc) hz hf E.f_isinstance (pe_glob (v := .ref _) rfl E.g_DealError rfl (by decide)) (.own _) (E.ex.kit1 hc (by decide)))))))) (fsone (fret (ftup (facons fstr (facons fint fanil))))) fsnil) (fsone (fret (ftup (facons fstr (facons (fxf (i := 4) (E.ex.xi c hc).xf (E.ex.no c hc _ (by decide)) hz hf) fanil))))))) (.as (⟨rfl, by decide, .inl E.g_NoMachine⟩) (E.ex.hx (by decide)) (i := 4) rfl rfl (fun a oe c fs dd pn hc hz hf => (fscons (fsif (ft_w (fw_or (ft_not (ft_val (fxis1 (i := 4) (E.ex.xi c hc) hz hf E.f_isinstance (pe_glob (v := .ref _) rfl E.g_DealError rfl (by decide)) (.own _) (E.ex.kit1 hc (by decide))))) (fw_or1 (ft_not (ft_val (fxis1 (i := 4) (E.ex.xi c hc) hz hf E.f_isinstance (clsTyS E.f_ValueError) (.ty _) (E.ve _ hc))))))) (fsone (fret (ftup (facons fstr (facons fint fanil))))) fsnil) (fsone (fret (ftup (facons fstr (facons (fxf (i := 4) (E.ex.xi c hc).xf (E.ex.no c hc _ (by decide)) hz hf) fanil))))))) .nil))))))
theorem sc__law_all : FnScope ["many", "load", "machine", "due", "word"] ["many", "load", "machine", "due"] (defScope s__law_all) := ⟨rfl, rfl, rfl, by decide +kernel, rfl, by decide +kernel, by decide +kernel⟩
theorem b__law_all (E : EV K mg) : Binds K E.fd__law_all ["many", "load", "machine", "due"] [] := E.D__law_all.bindsN fun _ _ _ _ _ _ us hl => match us, hl with | [_, _, _, _], _ => rfl
theorem ok__law_all (E : EV K mg) : FnF P w K mg base 43 (He.ga K "_law_all") E.fd__law_all ["many", "load", "machine", "due"] F__law_all := by
  have sc := sc__law_all
  refine fnF_of (k := 42) E.D__law_all sc__law_all (fun Z hZ X cdv A outer s H EE hX hr => ?_)
  subst hX
  have tk : Takes _ (wE EE) := takes_of (X := cxOf (CX P w) P w K mg base ["many", "load", "machine", "due", "word"] "_law_all" (defScope s__law_all) (He.ga K "_law_all") cdv A outer s H EE) rfl rfl rfl rfl
  have hp := passes_of (X := cxOf (CX P w) P w K mg base ["many", "load", "machine", "due", "word"] "_law_all" (defScope s__law_all) (He.ga K "_law_all") cdv A outer s H EE) rfl
  exact (fscons (fsfor hp rfl (fiseq (ftup (facons fstr (facons fstr (facons fstr fanil))))) (fgname (i := 4) sc.nd rfl (Or.inl rfl)) (nxName 4) (fsone (fsif (ft_not (ft_val (fcall hZ (ok__law_same E 40) (ar__law_same 40) (hr.mono (by decide)) tk E.g__law_same E.D__law_same.kp (b__law_same E) (facons (fcall hZ (ok__law_told E) ar__law_told (hr.mono (by decide)) tk E.g__law_told E.D__law_told.kp (b__law_told E) (facons (fv 4) (facons (fv 0) (facons (fv 1) (facons (fv 2) fanil))))) (facons (fv 3) fanil))))) (fsone (fret fbl)) fsnil))) (fsone (fret fbl)))
theorem sc__law_scene : FnScope [] [] (defScope s__law_scene) := ⟨rfl, rfl, rfl, by decide +kernel, rfl, by decide +kernel, by decide +kernel⟩
theorem b__law_scene (E : EV K mg) : Binds K E.fd__law_scene [] [] := E.D__law_scene.bindsN fun _ _ _ _ _ _ us hl => match us, hl with | [], _ => rfl
theorem ok__law_scene (E : EV K mg) : FnF P w K mg base 44 (He.ga K "_law_scene") E.fd__law_scene [] F__law_scene := by
  have sc := sc__law_scene
  refine fnF_of (k := 43) E.D__law_scene sc__law_scene (fun Z hZ X cdv A outer s H EE hX hr => ?_)
  subst hX
  have tk : Takes _ (wE EE) := takes_of (X := cxOf (CX P w) P w K mg base [] "_law_scene" (defScope s__law_scene) (He.ga K "_law_scene") cdv A outer s H EE) rfl rfl rfl rfl
  have hp := passes_of (X := cxOf (CX P w) P w K mg base [] "_law_scene" (defScope s__law_scene) (He.ga K "_law_scene") cdv A outer s H EE) rfl
  exact (fscons (fsif (ft_w (fw_or (ft_not (ft_val (fcall hZ (ok__law_same E 40) (ar__law_same 40) (hr.mono (by decide)) tk E.g__law_same E.D__law_same.kp (b__law_same E) (facons (fcall hZ (ok_busiest E) ar_busiest (hr.mono (by decide)) tk E.g_busiest E.D_busiest.kp (b_busiest E) (facons fint (facons (ftup fanil) fanil))) (facons (ftup (facons fint (facons fstr (facons fint fanil)))) fanil))))) (fw_or1 (ft_not (ft_val (fcall hZ (ok__law_same E 40) (ar__law_same 40) (hr.mono (by decide)) tk E.g__law_same E.D__law_same.kp (b__law_same E) (facons (fcall hZ (ok_busiest E) ar_busiest (hr.mono (by decide)) tk E.g_busiest E.D_busiest.kp (b_busiest E) (facons fint (facons (flst (facons (ftup (facons fint (facons fint (facons fint fanil)))) fanil)) fanil))) (facons (ftup (facons fint (facons fstr (facons fint fanil)))) fanil)))))))) (fsone (fret fbl)) fsnil) (fscons (fsif (ft_not (ft_val (fcall hZ (ok__law_same E 40) (ar__law_same 40) (hr.mono (by decide)) tk E.g__law_same E.D__law_same.kp (b__law_same E) (facons (fcall hZ (ok_busiest E) ar_busiest (hr.mono (by decide)) tk E.g_busiest E.D_busiest.kp (b_busiest E) (facons fint (facons (ftup (facons (ftup (facons fint (facons fint (facons fint fanil)))) (facons (ftup (facons fint (facons fint (facons fint fanil)))) fanil))) fanil))) (facons (ftup (facons fint (facons fstr (facons fint fanil)))) fanil))))) (fsone (fret fbl)) fsnil) (fscons (fsif (ft_not (ft_val (fcall hZ (ok__law_same E 40) (ar__law_same 40) (hr.mono (by decide)) tk E.g__law_same E.D__law_same.kp (b__law_same E) (facons (fcall hZ (ok_busiest E) ar_busiest (hr.mono (by decide)) tk E.g_busiest E.D_busiest.kp (b_busiest E) (facons fint (facons (ftup (facons (ftup (facons fint (facons fint (facons fint fanil)))) (facons (ftup (facons fint (facons fint (facons fint fanil)))) (facons (ftup (facons fint (facons fint (facons fint fanil)))) fanil)))) fanil))) (facons (ftup (facons fint (facons fstr (facons fint fanil)))) fanil))))) (fsone (fret fbl)) fsnil) (fscons (fsif (ft_not (ft_val (fcall hZ (ok__law_same E 40) (ar__law_same 40) (hr.mono (by decide)) tk E.g__law_same E.D__law_same.kp (b__law_same E) (facons (fcall hZ (ok_busiest E) ar_busiest (hr.mono (by decide)) tk E.g_busiest E.D_busiest.kp (b_busiest E) (facons fint (facons (ftup (facons (ftup (facons fint (facons fint (facons fint fanil)))) (facons (ftup (facons fint (facons fint (facons fint fanil)))) (facons (ftup (facons fint (facons fint (facons fint fanil)))) fanil)))) fanil))) (facons (ftup (facons fint (facons fstr (facons fint fanil)))) fanil))))) (fsone (fret fbl)) fsnil) (fscons (fsif (ft_not (ft_val (fcall hZ (ok__law_all E) ar__law_all (hr.mono (by decide)) tk E.g__law_all E.D__law_all.kp (b__law_all E) (facons fint (facons (ftup (facons (ftup (facons fint (facons fint (facons fint fanil)))) (facons (ftup (facons fint (facons fint (facons fint fanil)))) (facons (ftup (facons fint (facons fint (facons fint fanil)))) fanil)))) (facons fint (facons (ftup (facons fstr (facons fint fanil))) fanil))))))) (fsone (fret fbl)) fsnil) (fscons (fsif (ft_not (ft_val (fcall hZ (ok__law_all E) ar__law_all (hr.mono (by decide)) tk E.g__law_all E.D__law_all.kp (b__law_all E) (facons fint (facons (ftup (facons (ftup (facons fint (facons fint (facons fint fanil)))) (facons (ftup (facons fint (facons fint (facons fint fanil)))) (facons (ftup (facons fint (facons fint (facons fint fanil)))) fanil)))) (facons fint (facons (ftup (facons fstr (facons fint fanil))) fanil))))))) (fsone (fret fbl)) fsnil) (fsone (fret (fand (fcall hZ (ok__law_all E) ar__law_all (hr.mono (by decide)) tk E.g__law_all E.D__law_all.kp (b__law_all E) (facons fint (facons (ftup (facons (ftup (facons fint (facons fint (facons fint fanil)))) fanil)) (facons fnon (facons (ftup (facons fstr (facons fint fanil))) fanil))))) (fone (fcall hZ (ok__law_all E) ar__law_all (hr.mono (by decide)) tk E.g__law_all E.D__law_all.kp (b__law_all E) (facons fint (facons (flst (facons (flst (facons fint (facons fint (facons fint fanil)))) (facons (flst (facons fint (facons fint (facons fint fanil)))) fanil))) (facons fint (facons (ftup (facons fstr (facons fint fanil))) fanil)))))))))))))))
theorem sc__law_busy : FnScope ["many", "load", "best", "machine", "says", "gets", "triple"] ["many", "load"] (defScope s__law_busy) := ⟨rfl, rfl, rfl, by decide +kernel, rfl, by decide +kernel, by decide +kernel⟩
theorem b__law_busy (E : EV K mg) : Binds K E.fd__law_busy ["many", "load"] [] := E.D__law_busy.bindsN fun _ _ _ _ _ _ us hl => match us, hl with | [_, _], _ => rfl
theorem ok__law_busy (E : EV K mg) : FnF P w K mg base 2 (He.ga K "_law_busy") E.fd__law_busy ["many", "load"] F__law_busy := by
  have sc := sc__law_busy
  refine fnF_of (k := 1) E.D__law_busy sc__law_busy (fun Z hZ X cdv A outer s H EE hX hr => ?_)
  subst hX
  have tk : Takes _ (wE EE) := takes_of (X := cxOf (CX P w) P w K mg base ["many", "load", "best", "machine", "says", "gets", "triple"] "_law_busy" (defScope s__law_busy) (He.ga K "_law_busy") cdv A outer s H EE) rfl rfl rfl rfl
  have hp := passes_of (X := cxOf (CX P w) P w K mg base ["many", "load", "best", "machine", "says", "gets", "triple"] "_law_busy" (defScope s__law_busy) (He.ga K "_law_busy") cdv A outer s H EE) rfl
  exact (fscons (fset (i := 2) sc.nd rfl (Or.inl rfl) (ftup (facons fint (facons fstr (facons fint fanil))))) (fscons (fsfor hp rfl (fir1 (by rfl) E.f_range (facons (fv 0) fanil)) (fgname (i := 3) sc.nd rfl (Or.inr rfl)) (nxName 3) (fscons (fset (i := 4) sc.nd rfl (Or.inl rfl) (fsum rfl E.f_sum (facons (fcomp hZ rfl sc.nd (fiseq (fv 1)) (blkOk_by (own := [(("triple" : Str), 6)]) (by rfl)) (fun _ _ _ _ _ => (fwname (i := 6) sc.nd rfl (Or.inl rfl))) (fun _ _ _ _ _ => (ftsone (teq hr.units (fidx (fv 6) fint) (fv 3)))) (fun _ _ _ _ _ => (fidx (fv 6) fint))) fanil))) (fscons (fset (i := 5) sc.nd rfl (Or.inl rfl) (fsum rfl E.f_sum (facons (fcomp hZ rfl sc.nd (fiseq (fv 1)) (blkOk_by (own := [(("triple" : Str), 6)]) (by rfl)) (fun _ _ _ _ _ => (fwname (i := 6) sc.nd rfl (Or.inl rfl))) (fun _ _ _ _ _ => (ftsone (teq hr.units (fidx (fv 6) fint) (fv 3)))) (fun _ _ _ _ _ => (fidx (fv 6) fint))) fanil))) (fscons (fsif (tgt (fv 4) (fidx (fv 2) fint)) (fsone (fset (i := 2) sc.nd rfl (Or.inl rfl) (ftup (facons (fv 4) (facons fstr (facons (fv 3) fanil)))))) fsnil) (fsone (fsif (tgt (fv 5) (fidx (fv 2) fint)) (fsone (fset (i := 2) sc.nd rfl (Or.inl rfl) (ftup (facons (fv 5) (facons fstr (facons (fv 3) fanil)))))) fsnil)))))) (fsone (fret (fv 2)))))
theorem sc__law_answers : FnScope ["many", "load", "machine", "says", "gets", "triple"] ["many", "load"] (defScope s__law_answers) := ⟨rfl, rfl, rfl, by decide +kernel, rfl, by decide +kernel, by decide +kernel⟩
theorem b__law_answers (E : EV K mg) : Binds K E.fd__law_answers ["many", "load"] [] := E.D__law_answers.bindsN fun _ _ _ _ _ _ us hl => match us, hl with | [_, _], _ => rfl
theorem ok__law_answers (E : EV K mg) : FnF P w K mg base 43 (He.ga K "_law_answers") E.fd__law_answers ["many", "load"] F__law_answers := by
  have sc := sc__law_answers
  refine fnF_of (k := 42) E.D__law_answers sc__law_answers (fun Z hZ X cdv A outer s H EE hX hr => ?_)
  subst hX
  have tk : Takes _ (wE EE) := takes_of (X := cxOf (CX P w) P w K mg base ["many", "load", "machine", "says", "gets", "triple"] "_law_answers" (defScope s__law_answers) (He.ga K "_law_answers") cdv A outer s H EE) rfl rfl rfl rfl
  have hp := passes_of (X := cxOf (CX P w) P w K mg base ["many", "load", "machine", "says", "gets", "triple"] "_law_answers" (defScope s__law_answers) (He.ga K "_law_answers") cdv A outer s H EE) rfl
  exact (fscons (fsfor hp rfl (fir1 (by rfl) E.f_range (facons (fv 0) fanil)) (fgname (i := 2) sc.nd rfl (Or.inr rfl)) (nxName 2) (fscons (fset (i := 3) sc.nd rfl (Or.inl rfl) (fsum rfl E.f_sum (facons (fcomp hZ rfl sc.nd (fiseq (fv 1)) (blkOk_by (own := [(("triple" : Str), 5)]) (by rfl)) (fun _ _ _ _ _ => (fwname (i := 5) sc.nd rfl (Or.inl rfl))) (fun _ _ _ _ _ => (ftsone (teq hr.units (fidx (fv 5) fint) (fv 2)))) (fun _ _ _ _ _ => (fidx (fv 5) fint))) fanil))) (fscons (fset (i := 4) sc.nd rfl (Or.inl rfl) (fsum rfl E.f_sum (facons (fcomp hZ rfl sc.nd (fiseq (fv 1)) (blkOk_by (own := [(("triple" : Str), 5)]) (by rfl)) (fun _ _ _ _ _ => (fwname (i := 5) sc.nd rfl (Or.inl rfl))) (fun _ _ _ _ _ => (ftsone (teq hr.units (fidx (fv 5) fint) (fv 2)))) (fun _ _ _ _ _ => (fidx (fv 5) fint))) fanil))) (fscons (fsif (ft_not (ft_val (fcall hZ (ok__law_same E 40) (ar__law_same 40) (hr.mono (by decide)) tk E.g__law_same E.D__law_same.kp (b__law_same E) (facons (fcall hZ (ok__law_told E) ar__law_told (hr.mono (by decide)) tk E.g__law_told E.D__law_told.kp (b__law_told E) (facons fstr (facons (fv 0) (facons (fv 1) (facons (fv 2) fanil))))) (facons (ftup (facons fstr (facons (fv 3) fanil))) fanil))))) (fsone (fret fbl)) fsnil) (fsone (fsif (ft_not (ft_val (fcall hZ (ok__law_same E 40) (ar__law_same 40) (hr.mono (by decide)) tk E.g__law_same E.D__law_same.kp (b__law_same E) (facons (fcall hZ (ok__law_told E) ar__law_told (hr.mono (by decide)) tk E.g__law_told E.D__law_told.kp (b__law_told E) (facons fstr (facons (fv 0) (facons (fv 1) (facons (fv 2) fanil))))) (facons (ftup (facons fstr (facons (fv 4) fanil))) fanil))))) (fsone (fret fbl)) fsnil)))))) (fsone (fret (fcall hZ (ok__law_same E 40) (ar__law_same 40) (hr.mono (by decide)) tk E.g__law_same E.D__law_same.kp (b__law_same E) (facons (fcall hZ (ok__law_told E) ar__law_told (hr.mono (by decide)) tk E.g__law_told E.D__law_told.kp (b__law_told E) (facons fstr (facons (fv 0) (facons (fv 1) (facons fint fanil))))) (facons (ftup (facons fstr (facons (fcall hZ (ok__law_busy E) ar__law_busy (hr.mono (by decide)) tk E.g__law_busy E.D__law_busy.kp (b__law_busy E) (facons (fv 0) (facons (fv 1) fanil))) fanil))) fanil))))))
theorem sc_law : FnScope ["script", "source", "many", "load", "handed", "k", "machine", "word", "machines", "spoilt", "due", "triple"] ["script"] (defScope s_law) := ⟨rfl, rfl, rfl, by decide +kernel, rfl, by decide +kernel, by decide +kernel⟩
theorem b_law (E : EV K mg) : Binds K E.fd_law ["script"] [] := E.D_law.bindsN fun _ _ _ _ _ _ us hl => match us, hl with | [_], _ => rfl
theorem ok_law (E : EV K mg) : FnF P w K mg base 45 (He.ga K "law") E.fd_law ["script"] F_law := by
  have sc := sc_law
  refine fnF_of (k := 44) E.D_law sc_law (fun Z hZ X cdv A outer s H EE hX hr => ?_)
  subst hX
  have tk : Takes _ (wE EE) := takes_of (X := cxOf (CX P w) P w K mg base ["script", "source", "many", "load", "handed", "k", "machine", "word", "machines", "spoilt", "due", "triple"] "law" (defScope s_law) (He.ga K "law") cdv A outer s H EE) rfl rfl rfl rfl
  have hp := passes_of (X := cxOf (CX P w) P w K mg base ["script", "source", "many", "load", "handed", "k", "machine", "word", "machines", "spoilt", "due", "triple"] "law" (defScope s_law) (He.ga K "law") cdv A outer s H EE) rfl
  exact (fscons (fset (i := 1) sc.nd rfl (Or.inl rfl) (fcall hZ (ok__law_source E) ar__law_source (hr.mono (by decide)) tk E.g__law_source E.D__law_source.kp (b__law_source E) (facons (fv 0) fanil))) (fscons (fset (i := 2) sc.nd rfl (Or.inl rfl) (fcall hZ (ok__law_machines E) ar__law_machines (hr.mono (by decide)) tk E.g__law_machines E.D__law_machines.kp (b__law_machines E) (facons (fv 1) fanil))) (fscons (fset (i := 3) sc.nd rfl (Or.inl rfl) (fcall hZ (ok__law_drawn_load E) ar__law_drawn_load (hr.mono (by decide)) tk E.g__law_drawn_load E.D__law_drawn_load.kp (b__law_drawn_load E) (facons (fv 1) (facons (fv 2) fanil)))) (fscons (fsetcomp (i := 4) hZ rfl sc.nd rfl rfl rfl (fiseq (fv 3)) (blkOk_by (own := [(("triple" : Str), 11)]) (by rfl)) (fun _ _ _ _ _ => (fwname (i := 11) sc.nd rfl (Or.inl rfl))) (fun _ _ _ _ _ => ftsnil) (fun _ _ _ _ _ => (fclist E.f_list (facons (fv 11) fanil)))) (fscons (fsif (ft_w (fw_or (ft_not (ft_val (fcall hZ (ok__law_answers E) ar__law_answers (hr.mono (by decide)) tk E.g__law_answers E.D__law_answers.kp (b__law_answers E) (facons (fv 2) (facons (fv 3) fanil))))) (fw_or1 (ft_not (ft_val (fcall hZ (ok__law_answers E) ar__law_answers (hr.mono (by decide)) tk E.g__law_answers E.D__law_answers.kp (b__law_answers E) (facons (fv 2) (facons (fv 4) fanil)))))))) (fsone (fret fbl)) fsnil) (fscons (fsif (ft_not (ft_val (fcall hZ (ok__law_same E 40) (ar__law_same 40) (hr.mono (by decide)) tk E.g__law_same E.D__law_same.kp (b__law_same E) (facons (fv 4) (facons (fcomp hZ rfl sc.nd (fiseq (fv 3)) (blkOk_by (own := [(("triple" : Str), 11)]) (by rfl)) (fun _ _ _ _ _ => (fwname (i := 11) sc.nd rfl (Or.inl rfl))) (fun _ _ _ _ _ => ftsnil) (fun _ _ _ _ _ => (fclist E.f_list (facons (fv 11) fanil)))) fanil))))) (fsone (fret fbl)) fsnil) (fscons (fsfor hp rfl (fir1 (by rfl) E.f_range (facons fint fanil)) (fgname (i := 5) sc.nd rfl (Or.inl rfl)) (nxName 5) (fscons (fset (i := 6) sc.nd rfl (Or.inl rfl) (fcall hZ (ok__law_spoilt E) ar__law_spoilt (hr.mono (by decide)) tk E.g__law_spoilt E.D__law_spoilt.kp (b__law_spoilt E) (facons (fv 1) (facons (fv 2) fanil)))) (fsone (fsfor hp rfl (fiseq (ftup (facons fstr (facons fstr fanil)))) (fgname (i := 7) sc.nd rfl (Or.inl rfl)) (nxName 7) (fsone (fsif (ft_not (ft_val (fcall hZ (ok__law_same E 40) (ar__law_same 40) (hr.mono (by decide)) tk E.g__law_same E.D__law_same.kp (b__law_same E) (facons (fcall hZ (ok__law_told E) ar__law_told (hr.mono (by decide)) tk E.g__law_told E.D__law_told.kp (b__law_told E) (facons (fv 7) (facons (fv 2) (facons (fv 3) (facons (fv 6) fanil))))) (facons (ftup (facons fstr (facons (fv 6) fanil))) fanil))))) (fsone (fret fbl)) fsnil)))))) (fscons (fsfor hp rfl (fir1 (by rfl) E.f_range (facons fint fanil)) (fgname (i := 5) sc.nd rfl (Or.inl rfl)) (nxName 5) (fscons (fasg (fcall hZ (ok__law_spoilt_load E) ar__law_spoilt_load (hr.mono (by decide)) tk E.g__law_spoilt_load E.D__law_spoilt_load.kp (b__law_spoilt_load E) (facons (fv 1) (facons (fv 2) (facons (fv 3) fanil)))) (fgtup rfl (fgcons (fgname (i := 8) sc.nd rfl (Or.inl rfl)) (fgcons (fgname (i := 9) sc.nd rfl (Or.inl rfl)) fgnil))) (nxTup (nxCons (nxName 8) (nxCons (nxName 9) nxNil)))) (fscons (fset (i := 10) sc.nd rfl (Or.inl rfl) (fcall hZ (ok__law_fault E) ar__law_fault (hr.mono (by decide)) tk E.g__law_fault E.D__law_fault.kp (b__law_fault E) (facons (fv 8) (facons (fv 9) fanil)))) (fsone (fsif (tisN (fv 10) fnon) (fsone (fsif (ft_not (ft_val (fcall hZ (ok__law_answers E) ar__law_answers (hr.mono (by decide)) tk E.g__law_answers E.D__law_answers.kp (b__law_answers E) (facons (fv 8) (facons (fv 9) fanil))))) (fsone (fret fbl)) fsnil)) (fscons (fset (i := 6) sc.nd rfl (Or.inl rfl) fint) (fscons (fsif (teq hr.units (fcall hZ (ok__law_take E) ar__law_take (hr.mono (by decide)) tk E.g__law_take E.D__law_take.kp (b__law_take E) (facons (fv 1) (facons fint fanil))) fint) (fsone (fset (i := 6) sc.nd rfl (Or.inl rfl) (fcall hZ (ok__law_spoilt E) ar__law_spoilt (hr.mono (by decide)) tk E.g__law_spoilt E.D__law_spoilt.kp (b__law_spoilt E) (facons (fv 1) (facons (fv 2) fanil))))) fsnil) (fsone (fsif (ft_not (ft_val (fcall hZ (ok__law_all E) ar__law_all (hr.mono (by decide)) tk E.g__law_all E.D__law_all.kp (b__law_all E) (facons (fv 8) (facons (fv 9) (facons (fv 6) (facons (fv 10) fanil))))))) (fsone (fret fbl)) fsnil))))))))) (fsone (fret (fand (fcall hZ (ok__law_same E 40) (ar__law_same 40) (hr.mono (by decide)) tk E.g__law_same E.D__law_same.kp (b__law_same E) (facons (fcall hZ (ok_busiest E) ar_busiest (hr.mono (by decide)) tk E.g_busiest E.D_busiest.kp (b_busiest E) (facons (fv 2) (facons (fv 3) fanil))) (facons (fcall hZ (ok__law_busy E) ar__law_busy (hr.mono (by decide)) tk E.g__law_busy E.D__law_busy.kp (b__law_busy E) (facons (fv 2) (facons (fv 3) fanil))) fanil))) (fone (fcall0 hZ (ok__law_scene E) ar__law_scene (hr.mono (by decide)) tk E.g__law_scene E.D__law_scene.kp (b__law_scene E))))))))))))))
end
def dfs : List He.DefD := [⟨("_law_source", none), "_law_source", "_law_source", defArgs s__law_source, defBody s__law_source, defScope s__law_source, [], []⟩,
  ⟨("_law_take", none), "_law_take", "_law_take", defArgs s__law_take, defBody s__law_take, defScope s__law_take, [], []⟩,
  ⟨("_law_machines", none), "_law_machines", "_law_machines", defArgs s__law_machines, defBody s__law_machines, defScope s__law_machines, [], []⟩,
  ⟨("_law_drawn_load", none), "_law_drawn_load", "_law_drawn_load", defArgs s__law_drawn_load, defBody s__law_drawn_load, defScope s__law_drawn_load, [], []⟩,
  ⟨("_law_same", none), "_law_same", "_law_same", defArgs s__law_same, defBody s__law_same, defScope s__law_same, [], []⟩,
  ⟨("_law_spoilt", none), "_law_spoilt", "_law_spoilt", defArgs s__law_spoilt, defBody s__law_spoilt, defScope s__law_spoilt, [], []⟩,
  ⟨("_law_spoilt_row", none), "_law_spoilt_row", "_law_spoilt_row", defArgs s__law_spoilt_row, defBody s__law_spoilt_row, defScope s__law_spoilt_row, [], []⟩,
  ⟨("_law_tupled", none), "_law_tupled", "_law_tupled", defArgs s__law_tupled, defBody s__law_tupled, defScope s__law_tupled, [], []⟩,
  ⟨("_law_spoilt_load", none), "_law_spoilt_load", "_law_spoilt_load", defArgs s__law_spoilt_load, defBody s__law_spoilt_load, defScope s__law_spoilt_load, [], []⟩,
  ⟨("_law_whole", none), "_law_whole", "_law_whole", defArgs s__law_whole, defBody s__law_whole, defScope s__law_whole, [], []⟩,
  ⟨("_law_triple", none), "_law_triple", "_law_triple", defArgs s__law_triple, defBody s__law_triple, defScope s__law_triple, [], []⟩,
  ⟨("_law_fault", none), "_law_fault", "_law_fault", defArgs s__law_fault, defBody s__law_fault, defScope s__law_fault, [], []⟩,
  ⟨("is_integer", none), "is_integer", "is_integer", defArgs s_is_integer, defBody s_is_integer, defScope s_is_integer, [], []⟩,
  ⟨("is_from_to", none), "is_from_to", "is_from_to", defArgs s_is_from_to, defBody s_is_from_to, defScope s_is_from_to, [], []⟩,
  ⟨("check_number", none), "check_number", "check_number", defArgs s_check_number, defBody s_check_number, defScope s_check_number, [], []⟩,
  ⟨("is_triple", none), "is_triple", "is_triple", defArgs s_is_triple, defBody s_is_triple, defScope s_is_triple, [], []⟩,
  ⟨("checked_load", none), "checked_load", "checked_load", defArgs s_checked_load, defBody s_checked_load, defScope s_checked_load, [], []⟩,
  ⟨("check_machine", none), "check_machine", "check_machine", defArgs s_check_machine, defBody s_check_machine, defScope s_check_machine, [], []⟩,
  ⟨("sums_got", none), "sums_got", "sums_got", defArgs s_sums_got, defBody s_sums_got, defScope s_sums_got, [], []⟩,
  ⟨("got_of", none), "got_of", "got_of", defArgs s_got_of, defBody s_got_of, defScope s_got_of, [], []⟩,
  ⟨("sums_said", none), "sums_said", "sums_said", defArgs s_sums_said, defBody s_sums_said, defScope s_sums_said, [], []⟩,
  ⟨("greatest_sum", none), "greatest_sum", "greatest_sum", defArgs s_greatest_sum, defBody s_greatest_sum, defScope s_greatest_sum, [], []⟩,
  ⟨("busiest", none), "busiest", "busiest", defArgs s_busiest, defBody s_busiest, defScope s_busiest, [], []⟩,
  ⟨("said_of", none), "said_of", "said_of", defArgs s_said_of, defBody s_said_of, defScope s_said_of, [], []⟩,
  ⟨("_law_call", none), "_law_call", "_law_call", defArgs s__law_call, defBody s__law_call, defScope s__law_call, [], []⟩,
  ⟨("_law_told", none), "_law_told", "_law_told", defArgs s__law_told, defBody s__law_told, defScope s__law_told, [], []⟩,
  ⟨("_law_all", none), "_law_all", "_law_all", defArgs s__law_all, defBody s__law_all, defScope s__law_all, [], []⟩,
  ⟨("_law_scene", none), "_law_scene", "_law_scene", defArgs s__law_scene, defBody s__law_scene, defScope s__law_scene, [], []⟩,
  ⟨("_law_busy", none), "_law_busy", "_law_busy", defArgs s__law_busy, defBody s__law_busy, defScope s__law_busy, [], []⟩,
  ⟨("_law_answers", none), "_law_answers", "_law_answers", defArgs s__law_answers, defBody s__law_answers, defScope s__law_answers, [], []⟩,
  ⟨("law", none), "law", "law", defArgs s_law, defBody s_law, defScope s_law, [], []⟩,
  ⟨("InvalidLoad", some "__init__"), "__init__", "InvalidLoad.__init__", defArgs s_InvalidLoad, defBody s_InvalidLoad, defScope s_InvalidLoad, [], []⟩,
  ⟨("InvalidNumber", some "__init__"), "__init__", "InvalidNumber.__init__", defArgs s_InvalidNumber, defBody s_InvalidNumber, defScope s_InvalidNumber, [], []⟩,
  ⟨("NoMachine", some "__init__"), "__init__", "NoMachine.__init__", defArgs s_NoMachine, defBody s_NoMachine, defScope s_NoMachine, [], []⟩,
  ⟨("TooMany", some "__init__"), "__init__", "TooMany.__init__", defArgs s_TooMany, defBody s_TooMany, defScope s_TooMany, [], []⟩]
def fas : List He.Fa := [.glo "_law_source", .glo "_law_take", .glo "_law_machines", .glo "_law_drawn_load", .glo "_law_same", .glo "_law_spoilt", .glo "_law_spoilt_row", .glo "_law_tupled", .glo "_law_spoilt_load", .glo "_law_whole", .glo "_law_triple", .glo "_law_fault", .glo "is_integer", .glo "is_from_to", .glo "check_number", .glo "is_triple", .glo "checked_load", .glo "check_machine", .glo "sums_got", .glo "got_of", .glo "sums_said", .glo "greatest_sum", .glo "busiest", .glo "said_of", .glo "_law_call", .glo "_law_told", .glo "_law_all", .glo "_law_scene", .glo "_law_busy", .glo "_law_answers", .glo "law", .glo "InvalidLoad", .glo "InvalidNumber", .glo "NoMachine", .glo "TooMany", .meth "InvalidLoad" "__init__", .noat "InvalidLoad" "place", .meth "InvalidNumber" "__init__", .noat "InvalidNumber" "number", .meth "NoMachine" "__init__", .noat "NoMachine" "machine", .meth "TooMany" "__init__", .noat "TooMany" "many", .glo "DealError", .str "GETS" "gets", .glo "InvalidLoad", .glo "InvalidNumber", .int "MOST_MACHINES" 12, .int "MOST_NUMBERS" 400, .int "MOST_OF_ONE" 200, .glo "NoMachine", .str "SAYS" "says", .glo "TooMany", .free "ValueError", .free "bool", .free "enumerate", .free "int", .free "isinstance", .free "len", .free "list", .free "max", .free "min", .free "range", .free "sorted", .free "str", .free "sum", .free "tuple"]
def exq (K : PySem.W.Frag) : Bool := exB exT exN exK exF K && veB exT K && oexB K (He.ga K "InvalidLoad") && oexB K (He.ga K "InvalidNumber") && oexB K (He.ga K "NoMachine") && oexB K (He.ga K "TooMany")
theorem ev_of {K : PySem.W.Frag} {h : Heap} {mg : Str → Option Value} (X : K.In h) (G : h.Ns mainGlobals mg) (c : SaysL fas dfs exq K) : Nonempty (EV K mg) := by
  obtain ⟨c, q⟩ := c
  obtain ⟨fd__law_source, D__law_source⟩ := c.def_ 0 rfl
  obtain ⟨fd__law_take, D__law_take⟩ := c.def_ 1 rfl
  obtain ⟨fd__law_machines, D__law_machines⟩ := c.def_ 2 rfl
  obtain ⟨fd__law_drawn_load, D__law_drawn_load⟩ := c.def_ 3 rfl
  obtain ⟨fd__law_same, D__law_same⟩ := c.def_ 4 rfl
  obtain ⟨fd__law_spoilt, D__law_spoilt⟩ := c.def_ 5 rfl
  obtain ⟨fd__law_spoilt_row, D__law_spoilt_row⟩ := c.def_ 6 rfl
  obtain ⟨fd__law_tupled, D__law_tupled⟩ := c.def_ 7 rfl
  obtain ⟨fd__law_spoilt_load, D__law_spoilt_load⟩ := c.def_ 8 rfl
  obtain ⟨fd__law_whole, D__law_whole⟩ := c.def_ 9 rfl
  obtain ⟨fd__law_triple, D__law_triple⟩ := c.def_ 10 rfl
  obtain ⟨fd__law_fault, D__law_fault⟩ := c.def_ 11 rfl
  obtain ⟨fd_is_integer, D_is_integer⟩ := c.def_ 12 rfl
  obtain ⟨fd_is_from_to, D_is_from_to⟩ := c.def_ 13 rfl
  obtain ⟨fd_check_number, D_check_number⟩ := c.def_ 14 rfl
  obtain ⟨fd_is_triple, D_is_triple⟩ := c.def_ 15 rfl
  obtain ⟨fd_checked_load, D_checked_load⟩ := c.def_ 16 rfl
  obtain ⟨fd_check_machine, D_check_machine⟩ := c.def_ 17 rfl
  obtain ⟨fd_sums_got, D_sums_got⟩ := c.def_ 18 rfl
  obtain ⟨fd_got_of, D_got_of⟩ := c.def_ 19 rfl
  obtain ⟨fd_sums_said, D_sums_said⟩ := c.def_ 20 rfl
  obtain ⟨fd_greatest_sum, D_greatest_sum⟩ := c.def_ 21 rfl
  obtain ⟨fd_busiest, D_busiest⟩ := c.def_ 22 rfl
  obtain ⟨fd_said_of, D_said_of⟩ := c.def_ 23 rfl
  obtain ⟨fd__law_call, D__law_call⟩ := c.def_ 24 rfl
  obtain ⟨fd__law_told, D__law_told⟩ := c.def_ 25 rfl
  obtain ⟨fd__law_all, D__law_all⟩ := c.def_ 26 rfl
  obtain ⟨fd__law_scene, D__law_scene⟩ := c.def_ 27 rfl
  obtain ⟨fd__law_busy, D__law_busy⟩ := c.def_ 28 rfl
  obtain ⟨fd__law_answers, D__law_answers⟩ := c.def_ 29 rfl
  obtain ⟨fd_law, D_law⟩ := c.def_ 30 rfl
  obtain ⟨fd_InvalidLoad, D_InvalidLoad⟩ := c.def_ 31 rfl
  obtain ⟨fd_InvalidNumber, D_InvalidNumber⟩ := c.def_ 32 rfl
  obtain ⟨fd_NoMachine, D_NoMachine⟩ := c.def_ 33 rfl
  obtain ⟨fd_TooMany, D_TooMany⟩ := c.def_ 34 rfl
  obtain ⟨q, q_TooMany⟩ := Bool.and_eq_true_iff.mp q
  obtain ⟨q, q_NoMachine⟩ := Bool.and_eq_true_iff.mp q
  obtain ⟨q, q_InvalidNumber⟩ := Bool.and_eq_true_iff.mp q
  obtain ⟨q, q_InvalidLoad⟩ := Bool.and_eq_true_iff.mp q
  obtain ⟨q, q_ve⟩ := Bool.and_eq_true_iff.mp q
  exact ⟨{
    fd__law_source := fd__law_source, D__law_source := D__law_source, g__law_source := He.glo_ok X G (c.fact 0 rfl),
    fd__law_take := fd__law_take, D__law_take := D__law_take, g__law_take := He.glo_ok X G (c.fact 1 rfl),
    fd__law_machines := fd__law_machines, D__law_machines := D__law_machines, g__law_machines := He.glo_ok X G (c.fact 2 rfl),
    fd__law_drawn_load := fd__law_drawn_load, D__law_drawn_load := D__law_drawn_load, g__law_drawn_load := He.glo_ok X G (c.fact 3 rfl),
    fd__law_same := fd__law_same, D__law_same := D__law_same, g__law_same := He.glo_ok X G (c.fact 4 rfl),
    fd__law_spoilt := fd__law_spoilt, D__law_spoilt := D__law_spoilt, g__law_spoilt := He.glo_ok X G (c.fact 5 rfl),
    fd__law_spoilt_row := fd__law_spoilt_row, D__law_spoilt_row := D__law_spoilt_row, g__law_spoilt_row := He.glo_ok X G (c.fact 6 rfl),
    fd__law_tupled := fd__law_tupled, D__law_tupled := D__law_tupled, g__law_tupled := He.glo_ok X G (c.fact 7 rfl),
    fd__law_spoilt_load := fd__law_spoilt_load, D__law_spoilt_load := D__law_spoilt_load, g__law_spoilt_load := He.glo_ok X G (c.fact 8 rfl),
    fd__law_whole := fd__law_whole, D__law_whole := D__law_whole, g__law_whole := He.glo_ok X G (c.fact 9 rfl),
    fd__law_triple := fd__law_triple, D__law_triple := D__law_triple, g__law_triple := He.glo_ok X G (c.fact 10 rfl),
    fd__law_fault := fd__law_fault, D__law_fault := D__law_fault, g__law_fault := He.glo_ok X G (c.fact 11 rfl),
    fd_is_integer := fd_is_integer, D_is_integer := D_is_integer, g_is_integer := He.glo_ok X G (c.fact 12 rfl),
    fd_is_from_to := fd_is_from_to, D_is_from_to := D_is_from_to, g_is_from_to := He.glo_ok X G (c.fact 13 rfl),
    fd_check_number := fd_check_number, D_check_number := D_check_number, g_check_number := He.glo_ok X G (c.fact 14 rfl),
    fd_is_triple := fd_is_triple, D_is_triple := D_is_triple, g_is_triple := He.glo_ok X G (c.fact 15 rfl),
    fd_checked_load := fd_checked_load, D_checked_load := D_checked_load, g_checked_load := He.glo_ok X G (c.fact 16 rfl),
    fd_check_machine := fd_check_machine, D_check_machine := D_check_machine, g_check_machine := He.glo_ok X G (c.fact 17 rfl),
    fd_sums_got := fd_sums_got, D_sums_got := D_sums_got, g_sums_got := He.glo_ok X G (c.fact 18 rfl),
    fd_got_of := fd_got_of, D_got_of := D_got_of, g_got_of := He.glo_ok X G (c.fact 19 rfl),
    fd_sums_said := fd_sums_said, D_sums_said := D_sums_said, g_sums_said := He.glo_ok X G (c.fact 20 rfl),
    fd_greatest_sum := fd_greatest_sum, D_greatest_sum := D_greatest_sum, g_greatest_sum := He.glo_ok X G (c.fact 21 rfl),
    fd_busiest := fd_busiest, D_busiest := D_busiest, g_busiest := He.glo_ok X G (c.fact 22 rfl),
    fd_said_of := fd_said_of, D_said_of := D_said_of, g_said_of := He.glo_ok X G (c.fact 23 rfl),
    fd__law_call := fd__law_call, D__law_call := D__law_call, g__law_call := He.glo_ok X G (c.fact 24 rfl),
    fd__law_told := fd__law_told, D__law_told := D__law_told, g__law_told := He.glo_ok X G (c.fact 25 rfl),
    fd__law_all := fd__law_all, D__law_all := D__law_all, g__law_all := He.glo_ok X G (c.fact 26 rfl),
    fd__law_scene := fd__law_scene, D__law_scene := D__law_scene, g__law_scene := He.glo_ok X G (c.fact 27 rfl),
    fd__law_busy := fd__law_busy, D__law_busy := D__law_busy, g__law_busy := He.glo_ok X G (c.fact 28 rfl),
    fd__law_answers := fd__law_answers, D__law_answers := D__law_answers, g__law_answers := He.glo_ok X G (c.fact 29 rfl),
    fd_law := fd_law, D_law := D_law, g_law := He.glo_ok X G (c.fact 30 rfl),
    ve := veB_ok q_ve,
    fd_InvalidLoad := fd_InvalidLoad, D_InvalidLoad := D_InvalidLoad, x_InvalidLoad := ⟨oexB_ok q_InvalidLoad, (He.meth_ok (c.fact 35 (f := .meth "InvalidLoad" "__init__") rfl)).at_, isFn_ty (He.meth_ok (c.fact 35 (f := .meth "InvalidLoad" "__init__") rfl)).fn, (fun f hf => by
      simp only [List.mem_cons, List.not_mem_nil, or_false] at hf
      subst hf
      · exact He.noat_ok (c.fact 36 (f := .noat "InvalidLoad" "place") rfl)
    ), He.glo_ok X G (c.fact 31 rfl)⟩,
    fd_InvalidNumber := fd_InvalidNumber, D_InvalidNumber := D_InvalidNumber, x_InvalidNumber := ⟨oexB_ok q_InvalidNumber, (He.meth_ok (c.fact 37 (f := .meth "InvalidNumber" "__init__") rfl)).at_, isFn_ty (He.meth_ok (c.fact 37 (f := .meth "InvalidNumber" "__init__") rfl)).fn, (fun f hf => by
      simp only [List.mem_cons, List.not_mem_nil, or_false] at hf
      subst hf
      · exact He.noat_ok (c.fact 38 (f := .noat "InvalidNumber" "number") rfl)
    ), He.glo_ok X G (c.fact 32 rfl)⟩,
    fd_NoMachine := fd_NoMachine, D_NoMachine := D_NoMachine, x_NoMachine := ⟨oexB_ok q_NoMachine, (He.meth_ok (c.fact 39 (f := .meth "NoMachine" "__init__") rfl)).at_, isFn_ty (He.meth_ok (c.fact 39 (f := .meth "NoMachine" "__init__") rfl)).fn, (fun f hf => by
      simp only [List.mem_cons, List.not_mem_nil, or_false] at hf
      subst hf
      · exact He.noat_ok (c.fact 40 (f := .noat "NoMachine" "machine") rfl)
    ), He.glo_ok X G (c.fact 33 rfl)⟩,
    fd_TooMany := fd_TooMany, D_TooMany := D_TooMany, x_TooMany := ⟨oexB_ok q_TooMany, (He.meth_ok (c.fact 41 (f := .meth "TooMany" "__init__") rfl)).at_, isFn_ty (He.meth_ok (c.fact 41 (f := .meth "TooMany" "__init__") rfl)).fn, (fun f hf => by
      simp only [List.mem_cons, List.not_mem_nil, or_false] at hf
      subst hf
      · exact He.noat_ok (c.fact 42 (f := .noat "TooMany" "many") rfl)
    ), He.glo_ok X G (c.fact 34 rfl)⟩,
    g_DealError := He.glo_ok X G (c.fact 43 rfl),
    c_GETS := He.str_ok X G (c.fact 44 rfl),
    g_InvalidLoad := He.glo_ok X G (c.fact 31 rfl),
    g_InvalidNumber := He.glo_ok X G (c.fact 32 rfl),
    c_MOST_MACHINES := He.int_ok X G (c.fact 47 rfl),
    c_MOST_NUMBERS := He.int_ok X G (c.fact 48 rfl),
    c_MOST_OF_ONE := He.int_ok X G (c.fact 49 rfl),
    g_NoMachine := He.glo_ok X G (c.fact 33 rfl),
    c_SAYS := He.str_ok X G (c.fact 51 rfl),
    g_TooMany := He.glo_ok X G (c.fact 34 rfl),
    f_ValueError := He.free_ok X G (c.fact 53 rfl),
    f_bool := He.free_ok X G (c.fact 54 rfl),
    f_enumerate := He.free_ok X G (c.fact 55 rfl),
    f_int := He.free_ok X G (c.fact 56 rfl),
    f_isinstance := He.free_ok X G (c.fact 57 rfl),
    f_len := He.free_ok X G (c.fact 58 rfl),
    f_list := He.free_ok X G (c.fact 59 rfl),
    f_max := He.free_ok X G (c.fact 60 rfl),
    f_min := He.free_ok X G (c.fact 61 rfl),
    f_range := He.free_ok X G (c.fact 62 rfl),
    f_sorted := He.free_ok X G (c.fact 63 rfl),
    f_str := He.free_ok X G (c.fact 64 rfl),
    f_sum := He.free_ok X G (c.fact 65 rfl),
    f_tuple := He.free_ok X G (c.fact 66 rfl),
    ex := exB_ok q }⟩
end K06

set_option Elab.async false
set_option linter.all false
set_option maxRecDepth 100000
set_option maxHeartbeats 0
set_option autoImplicit false

namespace K06
open PySem PySem.Spec L2 FL
def loose0 : List Str := ["DealError", "NoMachine", "TooMany", "InvalidNumber", "InvalidLoad", "is_integer", "is_from_to", "check_number", "MOST_MACHINES", "MOST_OF_ONE", "MOST_NUMBERS", "SAYS", "GETS", "is_triple", "checked_load", "check_machine", "sums_said", "sums_got", "greatest_sum", "said_of", "got_of", "busiest", "_law_source", "_law_take", "_law_same", "_law_busy", "_law_machines", "_law_drawn_load", "_law_whole", "_law_triple"]
def loose1 : List Str := ["_law_fault", "_law_spoilt_row", "_law_spoilt_load", "_law_tupled", "_law_spoilt", "_law_call", "_law_told", "_law_answers", "_law_all", "_law_scene"]
def loose : List Str := loose0 ++ loose1
abbrev RR : PySem.W.OpenRow := PySem.W.OpenLaw.row PySem.Challenge.rw_everydealt_k06_loads_and_their_errors
abbrev hk : PySem.W.Hook := hookL 5 fas dfs exq
def ob (s : PySem.W.SharedT) : AlL := obsLG 5 fas dfs exq (HandSHeadRun.getT s)
theorem ob_eq (s : PySem.W.SharedT) : ob s = hk.obs s.abs := obsLG_eq (HandSHeadRun.getT_eq s)
theorem run (w : World) : HandSHeadRun.RunEq RR (PySem.W.view RR.prog [44]) hk ob 20000 loose w := by
  intro os
  kernel_rfl
end K06

set_option Elab.async false
set_option linter.all false
set_option maxRecDepth 100000
set_option maxHeartbeats 0
set_option autoImplicit false

open PySem PySem.W PySem.Calls PyProof.Rows
theorem PySem.Challenge.cw_everydealt_k06_loads_and_their_errors_holds : PySem.Challenge.rw_everydealt_k06_loads_and_their_errors.Holds := by
  w_on; o_law
  refine HandSHeadRun.head_any (r := OpenLaw.row PySem.Challenge.rw_everydealt_k06_loads_and_their_errors) (q := view (OpenLaw.row PySem.Challenge.rw_everydealt_k06_loads_and_their_errors).prog [44]) (H := K06.hk) (ob := K06.ob) (M := 20000) (loose := K06.loose) (d := HandSHeadRun.topDef (OpenLaw.row PySem.Challenge.rw_everydealt_k06_loads_and_their_errors).prog 44) (kwd := []) K06.ob_eq
    (by kernel_rfl) (fun s => by kernel_rfl) K06.run (by kernel_rfl) (by kernel_rfl) (by kernel_rfl) (by rfl) (by first | assumption | decide +kernel) (by decide +kernel) ⟨rfl, rfl, rfl, rfl, rfl, by decide +kernel⟩ ?hw ?hc
  case hw => w_witness2
  case hc =>
    refine FL.walk_ofEB (l := PySem.Challenge.rw_everydealt_k06_loads_and_their_errors) (n := 63) (k := 45) (x := "script") (CX := fun w => L2.CX (PySem.Challenge.rw_everydealt_k06_loads_and_their_errors).prog w) rfl (by decide) (by kernel_rfl) ⟨rfl, by decide, by decide⟩ ?F (fun w H s e s' h => FL.cx_false _ w H s e s' h)
    intro w mg fa h Y G hmg0
    obtain ⟨K, KX, c⟩ := Y
    have hmg : mg ("law" : PySem.Str) = some (.ref fa) := by
      have e : (HandSHeadRun.topDef (OpenLaw.row PySem.Challenge.rw_everydealt_k06_loads_and_their_errors).prog 44).name = ("law" : PySem.Str) := by kernel_rfl
      rw [← e]
      exact hmg0
    obtain ⟨E⟩ := K06.ev_of KX G c
    have ef := hmg.symm.trans E.g_law
    cases ef
    exact ⟨K, E.fd_law, FL.spF K 1 K06.F_law, KX, (fun s v => L2.FunD.bindsA (ps := ["script"]) E.D_law (fun _ _ _ _ _ _ us hl => match us, hl with | [_], _ => rfl) s [v] rfl), fun H a ns hl hb hO hS => FL.law_sp (K06.law_true ns hl hb) hO hS, fun base _ _ => K06.ok_law E⟩

