import PyProof.Rows.All
import Wide.All
import OpenK.AllK
import Wide.FinOn
import HandS.ForMost
import HandS.Exc
import HandS.TryOnly
import HandS.TryMany
import HandS.ExcInit
import HandS.ExcField
import HandS.ExcIs
import HandS.CallSlots
import HandS.IsInst
import HandS.Walk
import HandS.HeadHook2
import HandS.TupAny
import HandS.TupMul
import HandS.WideBits
import HandS.Wide
import KE.KExcIs
import HandS.Defaults
import HandS.Zip
import HandS.Rev
import HandS.RevRange
import HandS.Conv
import KE.GoesMore
import HandS.HeadEnd
import HandS.EndBits
import HandS.Words
import HandS.More
import KE.KStateDown
import Lean
import HandS.Head0
import HandS.Head1
import HandS.Head2
import PySem.Challenge.RW_everydealt_k02_whole_papers_of_tops
set_option Elab.async false
set_option linter.all false
set_option maxRecDepth 100000
set_option maxHeartbeats 4000000
namespace FL
open PySem PySem.Spec L2
set_option autoImplicit false

/-! ### values, objects, results -/
inductive U where
  | non | bl (b : Bool) | int (i : Int) | str (x : Str) | tup (xs : List U) | rl (xs : List U) | ref (l : Nat)
  deriving Inhabited
inductive OU where
  | lst (xs : List U) | dct (kvs : List (U × U)) | ins (c : Str) (fs : List (Str × U))
  deriving Inhabited
abbrev Gp := List OU
abbrev Ev := List (Option U)
inductive R (α : Type) where
  | ok (a : α) (G : Gp) | exc (c : Str) (fs : List (Str × U)) (G : Gp) | bad
inductive SR where
  | nx (e : Ev) (G : Gp) | ret (u : U) (G : Gp) | brk (e : Ev) (G : Gp) | ct (e : Ev) (G : Gp) | exc (c : Str) (fs : List (Str × U)) (e : Ev) (G : Gp) | bad
def R.bind {α β : Type} (r : R α) (k : α → Gp → R β) : R β := match r with
  | .ok a G => k a G
  | .exc c fs G => .exc c fs G
  | .bad => .bad
def R.andThen {α : Type} (r : R α) (e : Ev) (k : α → Gp → SR) : SR := match r with
  | .ok a G => k a G
  | .exc c fs G => .exc c fs e G
  | .bad => .bad
theorem R.bind_ok {α β : Type} (a : α) (G : Gp) (k : α → Gp → R β) : (R.ok a G).bind k = k a G := rfl
theorem R.andThen_ok {α : Type} (a : α) (G : Gp) (e : Ev) (k : α → Gp → SR) : (R.ok a G).andThen e k = k a G := rfl

/-! ### the relation -/
/-- the written part, and what else is held of the heap (Z): it stays where lists, instances change and where things are new -/
structure Keeps (K : PySem.W.Frag) (H H' : Hp) : Prop where
  tup : ∀ a vs, H a = some (.tup vs) → H' a = some (.tup vs)
  frz : ∀ a o u, H a = some (.frz o u) → H' a = some (.frz o u)
  xd : ∀ a fs, H a = some (.xd fs) → H' a = some (.xd fs)
structure ZZ (K : PySem.W.Frag) where
  er : Option (Nat × Addr)
  P : List Addr → Hp → Prop
  st : ∀ ρ ρ' H H', ρ <+: ρ' → Keeps K H H' → P ρ H → P ρ' H'
structure KZ where
  K : PySem.W.Frag
  Z : ZZ K
def zT {K : PySem.W.Frag} : ZZ K := ⟨none, fun _ _ => True, fun _ _ _ _ _ _ _ => trivial⟩
abbrev kz (X : Cx) (Z : ZZ X.K) : KZ := ⟨X.K, Z⟩
def RLs (K : KZ) (H : Hp) (a : Addr) (xs : List V) : Prop :=
  (∃ o, H a = some (.frz o (.lst xs))) ∨
    ∃ (o : Obj) (its : Array Value) (n : Nat), K.K.lookup a = some o ∧ o.cls = .type "list" ∧ o.dict = none ∧ o.data = .seq its n ∧ its.size ≤ sizeLine ∧ Vals xs its.toList
theorem RLs.sq {K : KZ} {H : Hp} {a : Addr} {xs : List V} (h : RLs K H a xs) : SqL K.K H a xs := by
  rcases h with ⟨o, h⟩ | h
  · exact .inl (.inr ⟨o, h⟩)
  · exact .inr h
/-- a tuple: tracked, or of the written part -/
def TupAt (K : KZ) (H : Hp) (a : Addr) (xs : List V) : Prop :=
  H a = some (.tup xs) ∨
    ∃ (o : Obj) (its : Array Value) (n : Nat), K.K.lookup a = some o ∧ o.cls = .type "tuple" ∧ o.data = .seq its n ∧ its.size ≤ sizeLine ∧ Vals xs its.toList
theorem TupAt.sq {K : KZ} {H : Hp} {a : Addr} {xs : List V} (h : TupAt K H a xs) : SqT K.K H a xs := by
  rcases h with h | h
  · exact .inl (.inl h)
  · exact .inr h
mutual
inductive RU (K : KZ) (ρ : List Addr) (H : Hp) : U → V → Prop
  | non : RU K ρ H .non .non
  | bl (b : Bool) : RU K ρ H (.bl b) (.bl b)
  | int (i : Int) : RU K ρ H (.int i) (.int i)
  | str (x : Str) : RU K ρ H (.str x) (.str x)
  | ref {l : Nat} {a : Addr} (h : ρ[l]? = some a) : RU K ρ H (.ref l) (.ref a)
  | tup {xs : List U} {vs : List V} {a : Addr} (h : TupAt K H a vs) (r : RUs K ρ H xs vs) : RU K ρ H (.tup xs) (.ref a)
  | rl {xs : List U} {vs : List V} {a : Addr} (h : RLs K H a vs) (r : RUs K ρ H xs vs) : RU K ρ H (.rl xs) (.ref a)
inductive RUs (K : KZ) (ρ : List Addr) (H : Hp) : List U → List V → Prop
  | nil : RUs K ρ H [] []
  | cons {x : U} {v : V} {xs : List U} {vs : List V} (h : RU K ρ H x v) (t : RUs K ρ H xs vs) : RUs K ρ H (x :: xs) (v :: vs)
end
abbrev Stb (K : KZ) (H H' : Hp) : Prop := Keeps K.K H H'
theorem Stb.refl {K : KZ} {H : Hp} : Stb K H H := ⟨fun _ _ h => h, fun _ _ _ h => h, fun _ _ h => h⟩
theorem Stb.trans {K : KZ} {H H1 H2 : Hp} (a : Stb K H H1) (b : Stb K H1 H2) : Stb K H H2 := ⟨fun x vs h => b.tup x vs (a.tup x vs h), fun x o u h => b.frz x o u (a.frz x o u h), fun x fs h => b.xd x fs (a.xd x fs h)⟩
theorem Stb.tupAt {K : KZ} {H H' : Hp} {a : Addr} {xs : List V} (s : Stb K H H') (h : TupAt K H a xs) : TupAt K H' a xs := by
  rcases h with h | h
  · exact .inl (s.tup _ _ h)
  · exact .inr h
theorem Stb.rls {K : KZ} {H H' : Hp} {a : Addr} {xs : List V} (s : Stb K H H') (h : RLs K H a xs) : RLs K H' a xs := by
  rcases h with ⟨o, h⟩ | h
  · exact .inl ⟨o, s.frz _ _ _ h⟩
  · exact .inr h
theorem pre_get {ρ ρ' : List Addr} (p : ρ <+: ρ') {l : Nat} {a : Addr} (h : ρ[l]? = some a) : ρ'[l]? = some a := by
  obtain ⟨t, rfl⟩ := p
  rw [List.getElem?_append_left (by exact (List.getElem?_eq_some_iff.mp h).1)]
  exact h
section
variable {K : KZ} {ρ ρ' : List Addr} {H H' : Hp}
mutual
theorem RU.mono (p : ρ <+: ρ') (s : Stb K H H') : ∀ {u : U} {v : V}, RU K ρ H u v → RU K ρ' H' u v
  | _, _, .non => .non
  | _, _, .bl b => .bl b
  | _, _, .int i => .int i
  | _, _, .str x => .str x
  | _, _, .ref h => .ref (pre_get p h)
  | _, _, .tup h r => .tup (s.tupAt h) (RUs.mono p s r)
  | _, _, .rl h r => .rl (s.rls h) (RUs.mono p s r)
theorem RUs.mono (p : ρ <+: ρ') (s : Stb K H H') : ∀ {us : List U} {vs : List V}, RUs K ρ H us vs → RUs K ρ' H' us vs
  | _, _, .nil => .nil
  | _, _, .cons h t => .cons (RU.mono p s h) (RUs.mono p s t)
end
theorem RUs.len : ∀ {us : List U} {vs : List V}, RUs K ρ H us vs → us.length = vs.length
  | _, _, .nil => rfl
  | _, _, .cons _ t => by rw [List.length_cons, List.length_cons, t.len]
theorem RUs.get : ∀ {us : List U} {vs : List V}, RUs K ρ H us vs → ∀ {i : Nat} {v : V}, vs[i]? = some v → ∃ u, us[i]? = some u ∧ RU K ρ H u v
  | _, _, .nil, _, _, e => by simp at e
  | _, _, .cons h t, 0, v, e => by simp at e; subst e; exact ⟨_, rfl, h⟩
  | _, _, .cons h t, i + 1, v, e => by
    obtain ⟨u, e1, r⟩ := t.get (i := i) (v := v) (by simpa using e)
    exact ⟨u, by simpa using e1, r⟩
theorem RUs.getU : ∀ {us : List U} {vs : List V}, RUs K ρ H us vs → ∀ {i : Nat} {u : U}, us[i]? = some u → ∃ v, vs[i]? = some v ∧ RU K ρ H u v
  | _, _, .nil, _, _, e => by simp at e
  | _, _, .cons h t, 0, v, e => by simp at e; subst e; exact ⟨_, rfl, h⟩
  | _, _, .cons h t, i + 1, v, e => by
    obtain ⟨u, e1, r⟩ := t.getU (i := i) (u := v) (by simpa using e)
    exact ⟨u, by simpa using e1, r⟩
theorem RUs.append : ∀ {us : List U} {vs : List V}, RUs K ρ H us vs → ∀ {us' : List U} {vs' : List V}, RUs K ρ H us' vs' → RUs K ρ H (us ++ us') (vs ++ vs')
  | _, _, .nil, _, _, r => r
  | _, _, .cons h t, _, _, r => .cons h (t.append r)
theorem RUs.set : ∀ {us : List U} {vs : List V}, RUs K ρ H us vs → ∀ {u : U} {v : V}, RU K ρ H u v → ∀ i : Nat, RUs K ρ H (us.set i u) (vs.set i v)
  | _, _, .nil, _, _, _, _ => .nil
  | _, _, .cons _ t, _, _, r, 0 => .cons r t
  | _, _, .cons h t, _, _, r, i + 1 => .cons h (t.set r i)
theorem RUs.take : ∀ {us : List U} {vs : List V}, RUs K ρ H us vs → ∀ n : Nat, RUs K ρ H (us.take n) (vs.take n)
  | _, _, .nil, n => by simpa using RUs.nil
  | _, _, .cons _ _, 0 => .nil
  | _, _, .cons h t, n + 1 => .cons h (t.take n)
theorem RUs.drop : ∀ {us : List U} {vs : List V}, RUs K ρ H us vs → ∀ n : Nat, RUs K ρ H (us.drop n) (vs.drop n)
  | _, _, .nil, n => by simpa using RUs.nil
  | _, _, .cons h t, 0 => .cons h t
  | _, _, .cons _ t, n + 1 => t.drop n
theorem RUs.ints : ∀ (ns : List Int), RUs K ρ H (ns.map U.int) (ns.map V.int)
  | [] => .nil
  | n :: r => .cons (.int n) (RUs.ints r)
end
/-- fields: the same names, related values -/
def RFs (K : KZ) (ρ : List Addr) (H : Hp) (fs : List (Str × U)) (vfs : List (Str × V)) : Prop := fs.map (·.1) = vfs.map (·.1) ∧ RUs K ρ H (fs.map (·.2)) (vfs.map (·.2))
theorem RFs.mono {K : KZ} {ρ ρ' : List Addr} {H H' : Hp} (p : ρ <+: ρ') (s : Stb K H H') {fs : List (Str × U)} {vfs : List (Str × V)} (r : RFs K ρ H fs vfs) : RFs K ρ' H' fs vfs := ⟨r.1, r.2.mono p s⟩
def RO (K : KZ) (ρ : List Addr) (H : Hp) : OU → HO → Prop
  | .lst xs, .lst vs => RUs K ρ H xs vs
  | .ins c fs, .ins C _ vfs => C = He.ga K.K c ∧ RFs K ρ H fs vfs
  | _, _ => False
theorem RO.mono {K : KZ} {ρ ρ' : List Addr} {H H' : Hp} (p : ρ <+: ρ') (s : Stb K H H') {o : OU} {ho : HO} (r : RO K ρ H o ho) : RO K ρ' H' o ho := by
  cases o <;> cases ho <;> first | exact r.elim | exact RUs.mono p s r | exact ⟨r.1, r.2.mono p s⟩
structure Sim (K : KZ) (ρ : List Addr) (G : Gp) (H : Hp) : Prop where
  len : ρ.length = G.length
  nd : ρ.Nodup
  ob : ∀ (l : Nat) (o : OU) (a : Addr), G[l]? = some o → ρ[l]? = some a → ∃ ho, H a = some ho ∧ RO K ρ H o ho
  z : K.Z.P ρ H
/-- a slot list -/
def REq0 (K : KZ) (ρ : List Addr) (H : Hp) : Ev → St → Prop
  | [], [] => True
  | u :: us, v :: vs => (match u, v with
    | none, _ => True
    | some x, some y => RU K ρ H x y
    | some _, none => False) ∧ REq0 K ρ H us vs
  | _, _ => False
section
variable {K : KZ} {ρ ρ' : List Addr} {H H' : Hp} {G : Gp}
theorem REq0.mono (p : ρ <+: ρ') (s : Stb K H H') : ∀ {env : Ev} {σ : St}, REq0 K ρ H env σ → REq0 K ρ' H' env σ
  | [], [], _ => trivial
  | none :: us, v :: vs, h => ⟨h.1, REq0.mono p s h.2⟩
  | some x :: us, some y :: vs, h => ⟨RU.mono p s h.1, REq0.mono p s h.2⟩
  | some x :: us, none :: vs, h => h.1.elim
theorem REq0.get : ∀ {env : Ev} {σ : St}, REq0 K ρ H env σ → ∀ {i : Nat} {u : U}, env[i]? = some (some u) → ∃ v, σ[i]? = some (some v) ∧ RU K ρ H u v
  | [], [], _, _, _, e => by simp at e
  | none :: us, v :: vs, h, 0, u, e => by simp at e
  | some x :: us, some y :: vs, h, 0, u, e => by simp at e; subst e; exact ⟨y, rfl, h.1⟩
  | some x :: us, none :: vs, h, _, _, _ => h.1.elim
  | none :: us, v :: vs, h, i + 1, u, e => by
    obtain ⟨w, e1, r⟩ := REq0.get h.2 (i := i) (u := u) (by simpa using e)
    exact ⟨w, by simpa using e1, r⟩
  | some x :: us, some y :: vs, h, i + 1, u, e => by
    obtain ⟨w, e1, r⟩ := REq0.get h.2 (i := i) (u := u) (by simpa using e)
    exact ⟨w, by simpa using e1, r⟩
theorem REq0.set {x : U} {y : V} (r : RU K ρ H x y) : ∀ {env : Ev} {σ : St}, REq0 K ρ H env σ → ∀ i : Nat, REq0 K ρ H (env.set i (some x)) (σ.set i (some y))
  | [], [], _, _ => trivial
  | none :: us, v :: vs, h, 0 => ⟨r, h.2⟩
  | some _ :: us, some _ :: vs, h, 0 => ⟨r, h.2⟩
  | some x :: us, none :: vs, h, _ => h.1.elim
  | none :: us, v :: vs, h, i + 1 => ⟨h.1, REq0.set r h.2 i⟩
  | some _ :: us, some _ :: vs, h, i + 1 => ⟨h.1, REq0.set r h.2 i⟩
theorem REq0.unset : ∀ {env : Ev} {σ : St}, REq0 K ρ H env σ → ∀ i : Nat, REq0 K ρ H (env.set i none) (σ.set i none)
  | [], [], _, _ => trivial
  | none :: us, v :: vs, h, 0 => ⟨trivial, h.2⟩
  | some _ :: us, some _ :: vs, h, 0 => ⟨trivial, h.2⟩
  | some x :: us, none :: vs, h, _ => h.1.elim
  | none :: us, v :: vs, h, i + 1 => ⟨h.1, REq0.unset h.2 i⟩
  | some _ :: us, some _ :: vs, h, i + 1 => ⟨h.1, REq0.unset h.2 i⟩
def startE (n : Nat) (us : List U) : Ev := us.map some ++ List.replicate (n - us.length) none
theorem REq0.nones : ∀ n : Nat, REq0 K ρ H (List.replicate n none) (List.replicate n none)
  | 0 => trivial
  | n + 1 => ⟨trivial, REq0.nones n⟩
theorem REq0.start_app : ∀ {us : List U} {vs : List V}, RUs K ρ H us vs → ∀ n : Nat, REq0 K ρ H (us.map some ++ List.replicate n none) (vs.map some ++ List.replicate n none)
  | _, _, .nil, n => REq0.nones n
  | _, _, .cons h t, n => ⟨h, REq0.start_app t n⟩
theorem REq0.start {us : List U} {vs : List V} (r : RUs K ρ H us vs) (N : List Str) : REq0 K ρ H (startE N.length us) (L2.start N vs) := by
  unfold startE L2.start
  rw [r.len]
  exact REq0.start_app r _

end
/-- the slots; where an error is handled (er), its name's slot, as long as nothing else is stored there, holds it -/
def REq (K : KZ) (ρ : List Addr) (H : Hp) (env : Ev) (σ : St) : Prop := REq0 K ρ H env σ ∧ ∀ i a, K.Z.er = some (i, a) → env[i]? = some none → σ[i]? = some (some (.ref a))
section
variable {K : KZ} {ρ ρ' : List Addr} {H H' : Hp} {env : Ev} {σ : St}
theorem REq0.len : ∀ {env : Ev} {σ : St}, REq0 K ρ H env σ → env.length = σ.length
  | [], [], _ => rfl
  | none :: us, v :: vs, h => by rw [List.length_cons, List.length_cons, REq0.len h.2]
  | some _ :: us, some _ :: vs, h => by rw [List.length_cons, List.length_cons, REq0.len h.2]
  | some x :: us, none :: vs, h => h.1.elim
theorem REq.mono (p : ρ <+: ρ') (s : Stb K H H') (e : REq K ρ H env σ) : REq K ρ' H' env σ := ⟨e.1.mono p s, e.2⟩
theorem REq.get (e : REq K ρ H env σ) {i : Nat} {u : U} (h : env[i]? = some (some u)) : ∃ v, σ[i]? = some (some v) ∧ RU K ρ H u v := e.1.get h
theorem REq.set {x : U} {y : V} (r : RU K ρ H x y) (e : REq K ρ H env σ) (i : Nat) : REq K ρ H (env.set i (some x)) (σ.set i (some y)) := by
  refine ⟨e.1.set r i, fun j a h1 h2 => ?_⟩
  by_cases hj : j = i
  · subst hj
    by_cases hl : j < env.length
    · rw [List.getElem?_set_self hl] at h2; cases h2
    · rw [List.set_eq_of_length_le (by omega)] at h2
      rw [List.set_eq_of_length_le (by rw [← e.1.len]; omega)]
      exact e.2 j a h1 h2
  · rw [List.getElem?_set_ne (Ne.symm hj)] at h2 ⊢
    exact e.2 j a h1 h2
theorem REq.unset (hZ : K.Z.er = none) (e : REq K ρ H env σ) (i : Nat) : REq K ρ H (env.set i none) (σ.set i none) := ⟨e.1.unset i, fun j a h => by rw [hZ] at h; cases h⟩
theorem REq.start (hZ : K.Z.er = none) {us : List U} {vs : List V} (r : RUs K ρ H us vs) (N : List Str) : REq K ρ H (startE N.length us) (L2.start N vs) := ⟨REq0.start r N, fun j a h => by rw [hZ] at h; cases h⟩
end

section
variable {K : KZ} {ρ ρ' : List Addr} {H H' : Hp} {G : Gp}
/-! ### heaps change -/
theorem stb_new {p : Addr} {o : HO} (hp : H p = none) : Stb K H (upd H p o) := by
  refine ⟨fun a vs h => ?_, fun a q u h => ?_, fun a fs h => ?_⟩
  · rw [upd_ne (ne_of_none h hp)]; exact h
  · rw [upd_ne (ne_of_none h hp)]; exact h
  · rw [upd_ne (ne_of_none h hp)]; exact h
theorem stb_write {p : Addr} {o o' : HO} (hp : H p = some o) (n1 : ∀ xs, o ≠ .tup xs) (n2 : ∀ q u, o ≠ .frz q u) (n3 : ∀ fs, o ≠ .xd fs) : Stb K H (upd H p o') := by
  refine ⟨fun a vs h => ?_, fun a q u h => ?_, fun a fs h => ?_⟩
  · rw [upd_ne (ne_of h hp (fun z => n1 _ z.symm))]; exact h
  · rw [upd_ne (ne_of h hp (fun z => n2 _ _ z.symm))]; exact h
  · rw [upd_ne (ne_of h hp (fun z => n3 _ z.symm))]; exact h
theorem pre_refl {ρ : List Addr} : ρ <+: ρ := List.prefix_refl ρ
theorem Sim.addr (S : Sim K ρ G H) {l : Nat} {o : OU} (h : G[l]? = some o) : ∃ a, ρ[l]? = some a := by
  have h1 : l < G.length := (List.getElem?_eq_some_iff.mp h).1
  exact ⟨ρ[l]'(by rw [S.len]; exact h1), List.getElem?_eq_getElem _⟩
theorem Sim.back (S : Sim K ρ G H) {l : Nat} {a : Addr} (h : ρ[l]? = some a) : ∃ o ho, G[l]? = some o ∧ H a = some ho ∧ RO K ρ H o ho := by
  have h1 : l < ρ.length := (List.getElem?_eq_some_iff.mp h).1
  have h2 : G[l]? = some (G[l]'(by rw [← S.len]; exact h1)) := List.getElem?_eq_getElem _
  obtain ⟨ho, e, r⟩ := S.ob l _ a h2 h
  exact ⟨_, ho, h2, e, r⟩
/-- a heap that keeps all that is tracked -/
theorem Sim.keep (S : Sim K ρ G H) (k : ∀ a o, H a = some o → H' a = some o) (s : Stb K H H') : Sim K ρ G H' :=
  ⟨S.len, S.nd, fun l o a h1 h2 => by
    obtain ⟨ho, e, r⟩ := S.ob l o a h1 h2
    exact ⟨ho, k _ _ e, r.mono pre_refl s⟩, K.Z.st _ _ _ _ pre_refl s S.z⟩
theorem Sim.tup (S : Sim K ρ G H) {p : Addr} {o : HO} (hp : H p = none) : Sim K ρ G (upd H p o) :=
  S.keep (fun a q e => by rw [upd_ne (ne_of_none e hp)]; exact e) (stb_new hp)
theorem Sim.new (S : Sim K ρ G H) {p : Addr} {o : OU} {ho : HO} (hp : H p = none) (r : RO K (ρ ++ [p]) (upd H p ho) o ho) : Sim K (ρ ++ [p]) (G ++ [o]) (upd H p ho) := by
  have hn : p ∉ ρ := fun hm => by
    obtain ⟨l, e⟩ := List.getElem?_of_mem hm
    obtain ⟨o', ho', _, e2, _⟩ := S.back e
    rw [hp] at e2; cases e2
  refine ⟨by simp [S.len], ?_, fun l q a h1 h2 => ?_, K.Z.st _ _ _ _ ⟨[p], rfl⟩ (stb_new hp) S.z⟩
  · rw [List.nodup_append]
    refine ⟨S.nd, by simp, ?_⟩
    intro a ha b hb
    simp at hb
    subst hb
    rintro rfl
    exact hn ha
  · by_cases hl : l < G.length
    · rw [List.getElem?_append_left hl] at h1
      rw [List.getElem?_append_left (by rw [S.len]; exact hl)] at h2
      obtain ⟨w, e, rw'⟩ := S.ob l q a h1 h2
      exact ⟨w, by rw [upd_ne (ne_of_none e hp)]; exact e, rw'.mono ⟨[p], rfl⟩ (stb_new hp)⟩
    · have e : l = G.length := by
        have := (List.getElem?_eq_some_iff.mp h1).1
        simp at this; omega
      subst e
      rw [List.getElem?_append_right (Nat.le_refl _)] at h1
      rw [List.getElem?_append_right (by rw [S.len]; exact Nat.le_refl _)] at h2
      simp [S.len] at h1 h2
      subst h1 h2
      exact ⟨ho, upd_same, r⟩
theorem Sim.write (S : Sim K ρ G H) {l : Nat} {a : Addr} {o : OU} {ho old : HO} (ha : ρ[l]? = some a) (e0 : H a = some old) (n1 : ∀ xs, old ≠ .tup xs) (n2 : ∀ q u, old ≠ .frz q u) (n3 : ∀ fs, old ≠ .xd fs) (r : RO K ρ (upd H a ho) o ho) : Sim K ρ (G.set l o) (upd H a ho) := by
  refine ⟨by simp [S.len], S.nd, fun m q b h1 h2 => ?_, K.Z.st _ _ _ _ pre_refl (stb_write e0 n1 n2 n3) S.z⟩
  by_cases hm : m = l
  · subst hm
    rw [ha] at h2; cases h2
    have hl : m < G.length := by
      have := (List.getElem?_eq_some_iff.mp ha).1
      rw [S.len] at this; exact this
    rw [List.getElem?_set_self hl] at h1
    cases h1
    exact ⟨ho, upd_same, r⟩
  · rw [List.getElem?_set_ne (Ne.symm hm)] at h1
    obtain ⟨w, e, rw'⟩ := S.ob m q b h1 h2
    have hne : b ≠ a := by
      rintro rfl
      obtain ⟨h3, e3⟩ := List.getElem?_eq_some_iff.mp h2
      obtain ⟨h4, e4⟩ := List.getElem?_eq_some_iff.mp ha
      exact hm ((List.getElem_inj S.nd).mp (e3.trans e4.symm))
    exact ⟨w, by rw [upd_ne hne]; exact e, rw'.mono pre_refl (stb_write e0 n1 n2 n3)⟩
end

/-! ### ends -/
abbrev Rel (α β : Type) := List Addr → Hp → α → β → Prop
def Post {α β : Type} (K : KZ) (rel : Rel α β) (ρ : List Addr) (H : Hp) (r : R α) (Q : β → Hp → Prop) (E : XK) : Prop := match r with
  | .ok a G' => ∀ b ρ' H', ρ <+: ρ' → Stb K H H' → Sim K ρ' G' H' → rel ρ' H' a b → Q b H'
  | .exc c fs G' => ∀ d vfs ρ' H', ρ <+: ρ' → Stb K H H' → Sim K ρ' G' H' → H' d = some (.xd vfs) → RFs K ρ' H' fs vfs → E (.ref (He.ga K.K c)) (some d) H'
  | .bad => False
theorem Post.lift {α β : Type} {K : KZ} {rel : Rel α β} {ρ ρ1 : List Addr} {H H1 : Hp} {r : R α} {Q : β → Hp → Prop} {E : XK} (h : Post K rel ρ H r Q E) (p : ρ <+: ρ1) (s : Stb K H H1) : Post K rel ρ1 H1 r Q E := by
  cases r with
  | ok a G => exact fun b ρ' H' p' s' S q => h b ρ' H' (p.trans p') (s.trans s') S q
  | exc c fs G => exact fun d vfs ρ' H' p' s' S e q => h d vfs ρ' H' (p.trans p') (s.trans s') S e q
  | bad => exact h
theorem Post.end_ {α β : Type} {K : KZ} {rel : Rel α β} {ρ : List Addr} {H : Hp} {a : α} {G : Gp} {Q : β → Hp → Prop} {E : XK} (h : Post K rel ρ H (.ok a G) Q E) {b : β} (S : Sim K ρ G H) (r : rel ρ H a b) : Q b H := h b ρ H pre_refl Stb.refl S r
/-- a reading of its own -/
def tG {α β : Type} (K : KZ) (rel : Rel α β) (W : WX) (f : Ev → Gp → R α) : St → Hp → (β → Hp → Prop) → Prop := fun σ H Q => ∃ ρ G env, Sim K ρ G H ∧ REq K ρ H env σ ∧ Post K rel ρ H (f env G) Q fun c d H' => W c d σ H'
/-- one step, then the rest -/
theorem step {α β γ δ : Type} {K : KZ} {rel : Rel α β} {rel' : Rel γ δ} {W : WX} {f : Ev → Gp → R α} {k : α → Gp → R γ} {σ : St} {H : Hp} {ρ : List Addr} {G : Gp} {env : Ev} {Q : δ → Hp → Prop} (S : Sim K ρ G H) (e : REq K ρ H env σ)
    (h : Post K rel' ρ H ((f env G).bind k) Q fun c d H' => W c d σ H') :
    tG K rel W f σ H fun b H1 => ∃ ρ1 G1 a, ρ <+: ρ1 ∧ Stb K H H1 ∧ Sim K ρ1 G1 H1 ∧ REq K ρ1 H1 env σ ∧ rel ρ1 H1 a b ∧ Post K rel' ρ1 H1 (k a G1) Q fun c d H' => W c d σ H' := by
  refine ⟨ρ, G, env, S, e, ?_⟩
  cases q : f env G with
  | ok a G1 =>
    rw [q] at h
    exact fun b ρ1 H1 p s S1 r => ⟨ρ1, G1, a, p, s, S1, e.mono p s, r, Post.lift h p s⟩
  | exc c fs G1 => rw [q] at h; exact h
  | bad => rw [q] at h; exact h
def tF (K : KZ) (W : WX) (f : Ev → Gp → R U) : TE := tG K (RU K) W f
def ttF (K : KZ) (W : WX) (f : Ev → Gp → R Bool) : TT := tG K (fun _ _ a b => a = b) W f
def taF (K : KZ) (W : WX) (f : Ev → Gp → R (List U)) : TA := tG K (RUs K) W f
abbrev FE (X : Cx) (Z : ZZ X.K) (W : WX) (e : Expr) (f : Ev → Gp → R U) : Prop := PE X e (tF (kz X Z) W f)
abbrev FT (X : Cx) (Z : ZZ X.K) (W : WX) (e : Expr) (f : Ev → Gp → R Bool) : Prop := PT X e (ttF (kz X Z) W f)
abbrev FA (X : Cx) (Z : ZZ X.K) (W : WX) (es : List Expr) (f : Ev → Gp → R (List U)) : Prop := PA X es (taF (kz X Z) W f)
theorem PEimp {X : Cx} {e : Expr} {t t' : TE} (h : PE X e t) (i : ∀ σ H Q, t' σ H Q → t σ H Q) : PE X e t' := ⟨fun pins s σ H Q I q => h.run pins s σ H Q I (i σ H Q q)⟩
theorem PTimp {X : Cx} {e : Expr} {t t' : TT} (h : PT X e t) (i : ∀ σ H Q, t' σ H Q → t σ H Q) : PT X e t' := ⟨fun pins s σ H Q I q => h.run pins s σ H Q I (i σ H Q q)⟩
theorem PWimp {X : Cx} {e : Expr} {t t' : TT} (h : PW X e t) (i : ∀ σ H Q, t' σ H Q → t σ H Q) : PW X e t' := ⟨fun wh pins s σ H Q I q => h.run wh pins s σ H Q I (i σ H Q q)⟩
theorem PAimp {X : Cx} {e : List Expr} {t t' : TA} (h : PA X e t) (i : ∀ σ H Q, t' σ H Q → t σ H Q) : PA X e t' := ⟨fun pos pins s σ H Q I q => h.run pos pins s σ H Q I (i σ H Q q)⟩
theorem PSimp {X : Cx} {e : Stmt} {t t' : TS} (h : PS X e t) (i : ∀ D σ H, t' D σ H → t D σ H) : PS X e t' := ⟨fun pins s σ H D I q => h.run pins s σ H D I (i D σ H q)⟩
theorem PSsimp {X : Cx} {e : List Stmt} {t t' : TS} (h : PSs X e t) (i : ∀ D σ H, t' D σ H → t D σ H) : PSs X e t' := ⟨fun pins s σ H D I q => h.run pins s σ H D I (i D σ H q)⟩
theorem PGimp {X : Cx} {e : Expr} {t t' : TG} (h : PG X e t) (i : ∀ v σ H Q, t' v σ H Q → t v σ H Q) : PG X e t' := ⟨fun pins s σ H v u Q I r q => h.run pins s σ H v u Q I r (i v σ H Q q)⟩

/-! ### names, constants -/
def eVar (i : Nat) : Ev → Gp → R U := fun env G => match env[i]? with
  | some (some u) => .ok u G
  | _ => .bad
def eC (u : U) : Ev → Gp → R U := fun _ G => .ok u G
section
variable {X : Cx} {Z : ZZ X.K} {W : WX} {pos : Pos}
theorem tVar_of {K : KZ} {W : WX} {i : Nat} (σ : St) (H : Hp) (Q : VK) (h : tF K W (eVar i) σ H Q) : tVar i σ H Q := by
  obtain ⟨ρ, G, env, S, e, h⟩ := h
  cases q : env[i]? with
  | none => simp only [eVar, q] at h; exact h.elim
  | some o =>
    cases o with
    | none => simp only [eVar, q] at h; exact h.elim
    | some u =>
      simp only [eVar, q] at h
      obtain ⟨v, e1, r⟩ := e.get q
      exact ⟨v, e1, h.end_ S r⟩
theorem fv (i : Nat) {x : Str} {pos : Pos} (hN : X.N[i]? = some x := by rfl) (hv : Vis X.env.scope x := by first | exact Or.inl rfl | exact Or.inr (Or.inl rfl) | exact Or.inr (Or.inr rfl)) (hd : (x == ("__debug__" : Str)) = false := by decide)
    (hcd : (x == ("__classdict__" : Str)) = false := by decide) : FE X Z W (.Name x pos) (eVar i) := PEimp (pe_var hN hv hd hcd) tVar_of
theorem tC_of {K : KZ} {W : WX} {u : U} {v : V} (r : ∀ ρ H, RU K ρ H u v) (σ : St) (H : Hp) (Q : VK) (h : tF K W (eC u) σ H Q) : tC v σ H Q := by
  obtain ⟨ρ, G, env, S, e, h⟩ := h
  exact h.end_ (a := u) S (r _ _)
theorem fint {i j pos} : FE X Z W (.Constant (.int i) j pos) (eC (.int i)) := PEimp pe_int (tC_of fun _ _ => .int i)
theorem fbl {b j pos} : FE X Z W (.Constant (.bool b) j pos) (eC (.bl b)) := PEimp pe_bl (tC_of fun _ _ => .bl b)
theorem fnon {j pos} : FE X Z W (.Constant .none j pos) (eC .non) := PEimp pe_non (tC_of fun _ _ => .non)
theorem fstr {x j pos} : FE X Z W (.Constant (.str x) j pos) (eC (.str x)) := PEimp pe_str (tC_of fun _ _ => .str x)
/-- a module's constant: an int, a text -/
theorem fglobI {x : Str} {i : Int} (hg : Gl X x) (hm : ∃ t, X.mg x = some (.int i t)) (hd : (x == ("__debug__" : Str)) = false := by decide) : FE X Z W (.Name x pos) (eC (.int i)) := by
  obtain ⟨t, hm⟩ := hm
  exact PEimp (pe_glob (v := .int i) hg hm ⟨t, rfl⟩ hd) (tC_of fun _ _ => .int i)
theorem fglobS {x z : Str} (hg : Gl X x) (hm : ∃ t, X.mg x = some (.str z t)) (hd : (x == ("__debug__" : Str)) = false := by decide) : FE X Z W (.Name x pos) (eC (.str z)) := by
  obtain ⟨t, hm⟩ := hm
  exact PEimp (pe_glob (v := .str z) hg hm ⟨t, rfl⟩ hd) (tC_of fun _ _ => .str z)
end

/-! ### operators -/
def eBin (g : U → U → Gp → R U) (fa fb : Ev → Gp → R U) : Ev → Gp → R U := fun env G => (fa env G).bind fun x G1 => (fb env G1).bind fun y G2 => g x y G2
def eUn (g : U → Gp → R U) (fa : Ev → Gp → R U) : Ev → Gp → R U := fun env G => (fa env G).bind g
/-- the operator's reading does what g says -/
def Op2 (K : KZ) (r : R2) (g : U → U → Gp → R U) : Prop := ∀ ρ G H x y v w Q E, Sim K ρ G H → RU K ρ H x v → RU K ρ H y w → Post K (RU K) ρ H (g x y G) Q E → r v w H Q
def Op1 (K : KZ) (r : V → Hp → VK → Prop) (g : U → Gp → R U) : Prop := ∀ ρ G H x v Q E, Sim K ρ G H → RU K ρ H x v → Post K (RU K) ρ H (g x G) Q E → r v H Q
theorem tG_mono {α β : Type} {K : KZ} {rel : Rel α β} {W : WX} {f : Ev → Gp → R α} {σ : St} {H : Hp} {Q Q' : β → Hp → Prop} (h : tG K rel W f σ H Q) (i : ∀ b H1, Q b H1 → Q' b H1) : tG K rel W f σ H Q' := by
  obtain ⟨ρ, G, env, S, e, h⟩ := h
  refine ⟨ρ, G, env, S, e, ?_⟩
  cases q : f env G with
  | ok a G1 => rw [q] at h; exact fun b ρ1 H1 p s S1 r => i _ _ (h b ρ1 H1 p s S1 r)
  | exc c fs G1 => rw [q] at h; exact h
  | bad => rw [q] at h; exact h
theorem tOp_of {K : KZ} {W : WX} {r : R2} {g : U → U → Gp → R U} {fa fb : Ev → Gp → R U} (o : Op2 K r g) (σ : St) (H : Hp) (Q : VK) (h : tF K W (eBin g fa fb) σ H Q) : tOp r (tF K W fa) (tF K W fb) σ H Q := by
  obtain ⟨ρ, G, env, S, e, h⟩ := h
  exact tG_mono (step S e h) fun v H1 ⟨ρ1, G1, x, p1, s1, S1, e1, r1, h1⟩ => tG_mono (step S1 e1 h1) fun w H2 ⟨ρ2, G2, y, p2, s2, S2, e2, r2, h2⟩ => o _ _ _ _ _ _ _ _ _ S2 (r1.mono p2 s2) r2 h2
end FL

set_option Elab.async false
set_option linter.all false
set_option maxRecDepth 100000
set_option maxHeartbeats 4000000
set_option autoImplicit false
namespace FL
open PySem PySem.Spec L2

/-! ### binary operators: from two FE to one -/
section
variable {X : Cx} {Z : ZZ X.K} {W : WX} {a b : Expr} {fa fb : Ev → Gp → R U} {pos : Pos}
theorem fop {op : Operator} {r : R2} {g : U → U → Gp → R U} (o : Op2 (kz X Z) r g) (ho : OpR X (binaryOp op) r) (ha : FE X Z W a fa) (hb : FE X Z W b fb) : FE X Z W (.BinOp a op b pos) (eBin g fa fb) := PEimp (pe_op ho ha hb) (tOp_of o)
theorem fcmp {op : CmpOp} {r : R2} {g : U → U → Gp → R U} (o : Op2 (kz X Z) r g) (ho : OpR X (compareOp op) r) (ha : FE X Z W a fa) (hb : FE X Z W b fb) (hm : behindInMarks op b = false) : FE X Z W (.Compare a [op] [b] pos) (eBin g fa fb) := PEimp (pe_cmpR ho ha hb hm) (tOp_of o)
theorem fun1 {op : UnaryOp} {r : V → Hp → VK → Prop} {g : U → Gp → R U} (o : Op1 (kz X Z) r g) (ho : UnR X (unaryOp op) r) (ha : FE X Z W a fa) : FE X Z W (.UnaryOp op a pos) (eUn g fa) := by
  refine PEimp (pe_un ho ha) fun σ H Q h => ?_
  obtain ⟨ρ, G, env, S, e, h⟩ := h
  exact tG_mono (step S e h) fun v H1 ⟨ρ1, G1, x, p1, s1, S1, e1, r1, h1⟩ => o _ _ _ _ _ _ _ S1 r1 h1
end

/-! ### tests -/
/-- a value that is a bool -/
def asB (r : R U) : R Bool := r.bind fun u G => match u with
  | .bl b => .ok b G
  | _ => .bad
def bVal (f : Ev → Gp → R U) : Ev → Gp → R Bool := fun env G => asB (f env G)
section
variable {X : Cx} {Z : ZZ X.K} {W : WX} {a b : Expr} {fa fb : Ev → Gp → R U} {pos : Pos}
theorem tB_of {K : KZ} {W : WX} {f : Ev → Gp → R U} (σ : St) (H : Hp) (Q : Bool → Hp → Prop) (h : ttF K W (bVal f) σ H Q) : tF K W f σ H fun x H1 => ∃ k, x = .bl k ∧ Q k H1 := by
  obtain ⟨ρ, G, env, S, e, h⟩ := h
  refine tG_mono (step (k := fun u G => match u with | .bl b => R.ok b G | _ => .bad) S e h) fun v H1 ⟨ρ1, G1, x, p1, s1, S1, e1, r1, h1⟩ => ?_
  cases r1 with
  | bl k => exact ⟨k, rfl, h1.end_ S1 rfl⟩
  | _ => exact h1.elim
theorem ft_cmp {op : CmpOp} {r : R2} {g : U → U → Gp → R U} (o : Op2 (kz X Z) r g) (ho : OpR X (compareOp op) r) (ha : FE X Z W a fa) (hb : FE X Z W b fb) (hm : behindInMarks op b = false) : FT X Z W (.Compare a [op] [b] pos) (bVal (eBin g fa fb)) := by
  refine PTimp (pt_cmpR ho ha hb hm) fun σ H Q h => ?_
  exact tOp_of o σ H _ (tB_of σ H Q h)
theorem ft_val {e : Expr} {f : Ev → Gp → R U} (h : FE X Z W e f) (he : ∀ whole, isTrue e X.env whole = (do let v ← whole; standAt e.pos; holding [v] (truthy v)) := by intro _; rfl) : FT X Z W e (bVal f) :=
  PTimp (pt_val h he) fun σ H Q q => tB_of σ H Q q
/-- truth of any value -/
def truU (u : U) (G : Gp) : R Bool := match u with
  | .non => .ok false G
  | .bl b => .ok b G
  | .int i => .ok (i != 0) G
  | .str x => if x.length ≤ 16777216 then .ok (x.length != 0) G else .bad
  | .tup xs => .ok (!xs.isEmpty) G
  | .rl xs => .ok (!xs.isEmpty) G
  | .ref l => match G[l]? with
    | some (.lst xs) => .ok (!xs.isEmpty) G
    | _ => .bad
end
def tAndB (f g : Ev → Gp → R Bool) : Ev → Gp → R Bool := fun env G => (f env G).bind fun c G1 => if c = true then g env G1 else .ok false G1
def tOrB (f g : Ev → Gp → R Bool) : Ev → Gp → R Bool := fun env G => (f env G).bind fun c G1 => if c = true then .ok true G1 else g env G1
def tNotB (f : Ev → Gp → R Bool) : Ev → Gp → R Bool := fun env G => (f env G).bind fun c G1 => .ok (!c) G1
abbrev FW (X : Cx) (Z : ZZ X.K) (W : WX) (e : Expr) (f : Ev → Gp → R Bool) : Prop := PW X e (ttF (kz X Z) W f)
section
variable {X : Cx} {Z : ZZ X.K} {W : WX} {a b : Expr} {fa fb : Ev → Gp → R Bool} {pos : Pos} {rest : List Expr}
theorem fw_and1 (ha : FT X Z W a fa) : FW X Z W (.BoolOp .And [a] pos) fa := pw_and1 ha
theorem fw_or1 (ha : FT X Z W a fa) : FW X Z W (.BoolOp .Or [a] pos) fa := pw_or1 ha
theorem fw_and (ha : FT X Z W a fa) (hb : FW X Z W (.BoolOp .And (b :: rest) pos) fb) : FW X Z W (.BoolOp .And (a :: b :: rest) pos) (tAndB fa fb) := by
  refine PWimp (pw_and ha hb) fun σ H Q h => ?_
  obtain ⟨ρ, G, env, S, e, h⟩ := h
  refine tG_mono (step S e h) fun v H1 ⟨ρ1, G1, x, p1, s1, S1, e1, r1, h1⟩ => ?_
  subst r1
  cases x with
  | true => exact ⟨ρ1, G1, env, S1, e1, h1⟩
  | false => exact h1.end_ S1 rfl
theorem fw_or (ha : FT X Z W a fa) (hb : FW X Z W (.BoolOp .Or (b :: rest) pos) fb) : FW X Z W (.BoolOp .Or (a :: b :: rest) pos) (tOrB fa fb) := by
  refine PWimp (pw_or ha hb) fun σ H Q h => ?_
  obtain ⟨ρ, G, env, S, e, h⟩ := h
  refine tG_mono (step S e h) fun v H1 ⟨ρ1, G1, x, p1, s1, S1, e1, r1, h1⟩ => ?_
  subst r1
  cases x with
  | false => exact ⟨ρ1, G1, env, S1, e1, h1⟩
  | true => exact h1.end_ S1 rfl
theorem ft_w (h : FW X Z W a fa) : FT X Z W a fa := PW.pt h
theorem ft_not (ha : FT X Z W a fa) : FT X Z W (.UnaryOp .Not a pos) (tNotB fa) := by
  refine PTimp (pt_not ha) fun σ H Q h => ?_
  obtain ⟨ρ, G, env, S, e, h⟩ := h
  refine tG_mono (step S e h) fun v H1 ⟨ρ1, G1, x, p1, s1, S1, e1, r1, h1⟩ => ?_
  subst r1
  exact h1.end_ S1 rfl
end
/-! .. as values -/
def eAnd (f g : Ev → Gp → R U) : Ev → Gp → R U := fun env G => (bVal f env G).bind fun c G1 => if c = true then g env G1 else .ok (.bl false) G1
def eOr (f g : Ev → Gp → R U) : Ev → Gp → R U := fun env G => (bVal f env G).bind fun c G1 => if c = true then .ok (.bl true) G1 else g env G1
def eNot (f : Ev → Gp → R U) : Ev → Gp → R U := fun env G => (bVal f env G).bind fun c G1 => .ok (.bl (!c)) G1
def eIf (c : Ev → Gp → R Bool) (f g : Ev → Gp → R U) : Ev → Gp → R U := fun env G => (c env G).bind fun b G1 => if b = true then f env G1 else g env G1
section
variable {X : Cx} {Z : ZZ X.K} {W : WX} {a b c : Expr} {fa fb : Ev → Gp → R U} {fc : Ev → Gp → R Bool} {pos : Pos} {rest : List Expr} {op : BoolOp}
theorem bStep {K : KZ} {W : WX} {γ δ : Type} {rel' : Rel γ δ} {f : Ev → Gp → R U} {k : Bool → Gp → R γ} {σ : St} {H : Hp} {ρ : List Addr} {G : Gp} {env : Ev} {Q : δ → Hp → Prop} (S : Sim K ρ G H) (e : REq K ρ H env σ)
    (h : Post K rel' ρ H ((bVal f env G).bind k) Q fun c d H' => W c d σ H') :
    tF K W f σ H fun v H1 => ∃ c, v = .bl c ∧ ∃ ρ1 G1, Sim K ρ1 G1 H1 ∧ REq K ρ1 H1 env σ ∧ Post K rel' ρ1 H1 (k c G1) Q fun c d H' => W c d σ H' := by
  refine tB_of σ H _ ?_
  refine tG_mono (step (f := bVal f) (rel := fun _ _ a b => a = b) S e h) fun v H1 ⟨ρ1, G1, x, p1, s1, S1, e1, r1, h1⟩ => ?_
  subst r1
  exact ⟨ρ1, G1, S1, e1, h1⟩
theorem fone (ha : FE X Z W a fa) : FE X Z W (.BoolOp op [a] pos) fa := pe_one ha
theorem fand (ha : FE X Z W a fa) (hb : FE X Z W (.BoolOp .And (b :: rest) pos) fb) : FE X Z W (.BoolOp .And (a :: b :: rest) pos) (eAnd fa fb) := by
  refine PEimp (pe_and ha hb) fun σ H Q h => ?_
  obtain ⟨ρ, G, env, S, e, h⟩ := h
  refine tG_mono (bStep S e h) fun v H1 ⟨c, ev, ρ1, G1, S1, e1, h1⟩ => ⟨c, ev, ?_⟩
  cases c with
  | true => exact ⟨ρ1, G1, env, S1, e1, h1⟩
  | false => exact h1.end_ S1 (.bl _)
theorem for_ (ha : FE X Z W a fa) (hb : FE X Z W (.BoolOp .Or (b :: rest) pos) fb) : FE X Z W (.BoolOp .Or (a :: b :: rest) pos) (eOr fa fb) := by
  refine PEimp (pe_or ha hb) fun σ H Q h => ?_
  obtain ⟨ρ, G, env, S, e, h⟩ := h
  refine tG_mono (bStep S e h) fun v H1 ⟨c, ev, ρ1, G1, S1, e1, h1⟩ => ⟨c, ev, ?_⟩
  cases c with
  | false => exact ⟨ρ1, G1, env, S1, e1, h1⟩
  | true => exact h1.end_ S1 (.bl _)
theorem fnot (ha : FE X Z W a fa) : FE X Z W (.UnaryOp .Not a pos) (eNot fa) := by
  refine PEimp (pe_not ha) fun σ H Q h => ?_
  obtain ⟨ρ, G, env, S, e, h⟩ := h
  exact tG_mono (bStep S e h) fun v H1 ⟨c, ev, ρ1, G1, S1, e1, h1⟩ => ⟨c, ev, h1.end_ S1 (.bl _)⟩
theorem fif (hc : FT X Z W c fc) (ha : FE X Z W a fa) (hb : FE X Z W b fb) : FE X Z W (.IfExp c a b pos) (eIf fc fa fb) := by
  refine PEimp (pe_ifExp hc ha hb) fun σ H Q h => ?_
  obtain ⟨ρ, G, env, S, e, h⟩ := h
  refine tG_mono (step S e h) fun v H1 ⟨ρ1, G1, x, p1, s1, S1, e1, r1, h1⟩ => ?_
  subst r1
  cases x with
  | true => exact ⟨ρ1, G1, env, S1, e1, h1⟩
  | false => exact ⟨ρ1, G1, env, S1, e1, h1⟩
end

/-! ### arguments -/
def aNil : Ev → Gp → R (List U) := fun _ G => .ok [] G
def aCons (f : Ev → Gp → R U) (g : Ev → Gp → R (List U)) : Ev → Gp → R (List U) := fun env G => (f env G).bind fun x G1 => (g env G1).bind fun xs G2 => .ok (x :: xs) G2
section
variable {X : Cx} {Z : ZZ X.K} {W : WX} {e : Expr} {es : List Expr} {f : Ev → Gp → R U} {fs : Ev → Gp → R (List U)} {pos : Pos}
theorem fanil : FA X Z W [] aNil := by
  refine PAimp pa_nil fun σ H Q h => ?_
  obtain ⟨ρ, G, env, S, e, h⟩ := h
  exact Post.end_ (a := ([] : List U)) h S .nil
theorem facons (ha : FE X Z W e f) (hr : FA X Z W es fs) (hs : starEach (e :: es) X.env = (false, eval e X.env) :: starEach es X.env := by rfl) : FA X Z W (e :: es) (aCons f fs) := by
  refine PAimp (pa_cons ha hr hs) fun σ H Q h => ?_
  obtain ⟨ρ, G, env, S, e, h⟩ := h
  refine tG_mono (step S e h) fun v H1 ⟨ρ1, G1, x, p1, s1, S1, e1, r1, h1⟩ => ?_
  exact tG_mono (step S1 e1 h1) fun w H2 ⟨ρ2, G2, y, p2, s2, S2, e2, r2, h2⟩ => h2.end_ S2 (.cons (r1.mono p2 s2) r2)
/-- one step of a row of values -/
def eTup (g : Ev → Gp → R (List U)) : Ev → Gp → R U := fun env G => (g env G).bind fun xs G1 => if xs.length ≤ 16777216 then .ok (.tup xs) G1 else .bad
def eLst (g : Ev → Gp → R (List U)) : Ev → Gp → R U := fun env G => (g env G).bind fun xs G1 => if xs.length ≤ 16777216 then .ok (.ref G1.length) (G1 ++ [.lst xs]) else .bad
theorem line_eq : (sizeLine : Nat) = 16777216 := sizeLine_eq
theorem newTup {K : KZ} {ρ : List Addr} {G : Gp} {H : Hp} {xs : List U} {vs : List V} {Q : VK} {E : XK} (S : Sim K ρ G H) (r : RUs K ρ H xs vs) (h : Post K (RU K) ρ H (.ok (.tup xs) G) Q E) : ∀ p, H p = none → Q (.ref p) (upd H p (.tup vs)) :=
  fun p hp => h (.ref p) ρ _ pre_refl (stb_new hp) (S.tup hp) (.tup (.inl upd_same) (r.mono pre_refl (stb_new hp)))
theorem newLst {K : KZ} {ρ : List Addr} {G : Gp} {H : Hp} {xs : List U} {vs : List V} {Q : VK} {E : XK} (S : Sim K ρ G H) (r : RUs K ρ H xs vs) (h : Post K (RU K) ρ H (.ok (.ref G.length) (G ++ [.lst xs])) Q E) : ∀ p, H p = none → Q (.ref p) (upd H p (.lst vs)) :=
  fun p hp => h (.ref p) (ρ ++ [p]) _ ⟨[p], rfl⟩ (stb_new hp) (S.new hp (show RUs K (ρ ++ [p]) _ xs vs from r.mono ⟨[p], rfl⟩ (stb_new hp))) (.ref (by rw [← S.len]; simp))
theorem ftup {k : Nat} (h : FA X Z W es fs) : FE X Z W (.Tuple es k pos) (eTup fs) := by
  refine PEimp (pe_tup h) fun σ H Q h => ?_
  obtain ⟨ρ, G, env, S, e, h⟩ := h
  refine tG_mono (step (rel := RUs (kz X Z)) S e h) fun v H1 ⟨ρ1, G1, x, p1, s1, S1, e1, r1, h1⟩ => ?_
  by_cases hl : x.length ≤ 16777216
  · rw [if_pos hl] at h1
    exact ⟨by rw [← r1.len, line_eq]; exact hl, newTup S1 r1 h1⟩
  · rw [if_neg hl] at h1; exact h1.elim
theorem flst {pos : Pos} (h : FA X Z W es fs) : FE X Z W (.List es pos) (eLst fs) := by
  refine PEimp (pe_lst h) fun σ H Q h => ?_
  obtain ⟨ρ, G, env, S, e, h⟩ := h
  refine tG_mono (step (rel := RUs (kz X Z)) S e h) fun v H1 ⟨ρ1, G1, x, p1, s1, S1, e1, r1, h1⟩ => ?_
  by_cases hl : x.length ≤ 16777216
  · rw [if_pos hl] at h1
    exact ⟨by rw [← r1.len, line_eq]; exact hl, newLst S1 r1 h1⟩
  · rw [if_neg hl] at h1; exact h1.elim
end

/-! ### statements -/
def PostS (K : KZ) (ρ : List Addr) (H : Hp) (r : SR) (D : Ends) (W : WX) : Prop := match r with
  | .nx env' G' => ∀ σ' ρ' H', ρ <+: ρ' → Stb K H H' → Sim K ρ' G' H' → REq K ρ' H' env' σ' → D.nx σ' H'
  | .ret u G' => ∀ v ρ' H', ρ <+: ρ' → Stb K H H' → Sim K ρ' G' H' → RU K ρ' H' u v → D.rt v H'
  | .brk env' G' => ∀ σ' ρ' H', ρ <+: ρ' → Stb K H H' → Sim K ρ' G' H' → REq K ρ' H' env' σ' → D.bk σ' H'
  | .ct env' G' => ∀ σ' ρ' H', ρ <+: ρ' → Stb K H H' → Sim K ρ' G' H' → REq K ρ' H' env' σ' → D.ct σ' H'
  | .exc c fs env' G' => ∀ σ' d vfs ρ' H', ρ <+: ρ' → Stb K H H' → Sim K ρ' G' H' → REq K ρ' H' env' σ' → H' d = some (.xd vfs) → RFs K ρ' H' fs vfs → W (.ref (He.ga K.K c)) (some d) σ' H'
  | .bad => False
theorem PostS.lift {K : KZ} {ρ ρ1 : List Addr} {H H1 : Hp} {r : SR} {D : Ends} {W : WX} (h : PostS K ρ H r D W) (p : ρ <+: ρ1) (s : Stb K H H1) : PostS K ρ1 H1 r D W := by
  cases r with
  | nx e G => exact fun σ ρ' H' p' s' S q => h σ ρ' H' (p.trans p') (s.trans s') S q
  | brk e G => exact fun σ ρ' H' p' s' S q => h σ ρ' H' (p.trans p') (s.trans s') S q
  | ct e G => exact fun σ ρ' H' p' s' S q => h σ ρ' H' (p.trans p') (s.trans s') S q
  | ret u G => exact fun v ρ' H' p' s' S q => h v ρ' H' (p.trans p') (s.trans s') S q
  | exc c fs e G => exact fun σ d vfs ρ' H' p' s' S q1 q2 q3 => h σ d vfs ρ' H' (p.trans p') (s.trans s') S q1 q2 q3
  | bad => exact h
theorem PostS.nx_ {K : KZ} {ρ : List Addr} {H : Hp} {env : Ev} {G : Gp} {D : Ends} {W : WX} (h : PostS K ρ H (.nx env G) D W) {σ : St} (S : Sim K ρ G H) (e : REq K ρ H env σ) : D.nx σ H := h σ ρ H pre_refl Stb.refl S e
def tS (K : KZ) (W : WX) (g : Ev → Gp → SR) : TS := fun D σ H => ∃ ρ G env, Sim K ρ G H ∧ REq K ρ H env σ ∧ PostS K ρ H (g env G) D W
abbrev FS (X : Cx) (Z : ZZ X.K) (W : WX) (st : Stmt) (g : Ev → Gp → SR) : Prop := PS X st (tS (kz X Z) W g)
abbrev FSs (X : Cx) (Z : ZZ X.K) (W : WX) (st : List Stmt) (g : Ev → Gp → SR) : Prop := PSs X st (tS (kz X Z) W g)
theorem stepS {α β : Type} {K : KZ} {rel : Rel α β} {W : WX} {f : Ev → Gp → R α} {k : α → Gp → SR} {σ : St} {H : Hp} {ρ : List Addr} {G : Gp} {env : Ev} {D : Ends} (S : Sim K ρ G H) (e : REq K ρ H env σ)
    (h : PostS K ρ H ((f env G).andThen env k) D W) :
    tG K rel W f σ H fun b H1 => ∃ ρ1 G1 a, ρ <+: ρ1 ∧ Stb K H H1 ∧ Sim K ρ1 G1 H1 ∧ REq K ρ1 H1 env σ ∧ rel ρ1 H1 a b ∧ PostS K ρ1 H1 (k a G1) D W := by
  refine ⟨ρ, G, env, S, e, ?_⟩
  cases q : f env G with
  | ok a G1 =>
    rw [q] at h
    exact fun b ρ1 H1 p s S1 r => ⟨ρ1, G1, a, p, s, S1, e.mono p s, r, PostS.lift h p s⟩
  | exc c fs G1 =>
    rw [q] at h
    exact fun d vfs ρ' H' p s S1 q1 q2 => h σ d vfs ρ' H' p s S1 (e.mono p s) q1 q2
  | bad => rw [q] at h; exact h
def sNil : Ev → Gp → SR := fun env G => .nx env G
def sSeq (g1 g2 : Ev → Gp → SR) : Ev → Gp → SR := fun env G => match g1 env G with
  | .nx env' G' => g2 env' G'
  | r => r
def sExpr (f : Ev → Gp → R U) : Ev → Gp → SR := fun env G => (f env G).andThen env fun _ G1 => .nx env G1
def sRet (f : Ev → Gp → R U) : Ev → Gp → SR := fun env G => (f env G).andThen env fun u G1 => .ret u G1
def sRetN : Ev → Gp → SR := fun _ G => .ret .non G
def sBrk : Ev → Gp → SR := fun env G => .brk env G
def sCt : Ev → Gp → SR := fun env G => .ct env G
def sIf (c : Ev → Gp → R Bool) (g1 g2 : Ev → Gp → SR) : Ev → Gp → SR := fun env G => (c env G).andThen env fun b G1 => if b = true then g1 env G1 else g2 env G1
def sAsg (f : Ev → Gp → R U) (gf : U → Ev → Gp → R Ev) : Ev → Gp → SR := fun env G => (f env G).andThen env fun u G1 => (gf u env G1).andThen env fun env' G2 => .nx env' G2
def gNm (i : Nat) : U → Ev → Gp → R Ev := fun u env G => .ok (env.set i (some u)) G
section
variable {X : Cx} {Z : ZZ X.K} {W : WX} {st : Stmt} {sts : List Stmt} {g g1 g2 : Ev → Gp → SR} {e c : Expr} {f : Ev → Gp → R U} {fc : Ev → Gp → R Bool} {pos : Pos}
theorem fsnil : FSs X Z W [] sNil := PSsimp pss_nil fun D σ H ⟨_, _, _, S, e, h⟩ => h.nx_ S e
theorem seqT {K : KZ} {W : WX} {g1 g2 : Ev → Gp → SR} (D : Ends) (σ : St) (H : Hp) (h : tS K W (sSeq g1 g2) D σ H) : tSeq (tS K W g1) (tS K W g2) D σ H := by
  obtain ⟨ρ, G, env, S, e, h⟩ := h
  refine ⟨ρ, G, env, S, e, ?_⟩
  unfold sSeq at h
  cases q : g1 env G with
  | nx env' G' => rw [q] at h; exact fun σ' ρ' H' p s S' e' => ⟨ρ', G', env', S', e', h.lift p s⟩
  | ret u G' => rw [q] at h; exact h
  | brk env' G' => rw [q] at h; exact h
  | ct env' G' => rw [q] at h; exact h
  | exc c fs env' G' => rw [q] at h; exact h
  | bad => rw [q] at h; exact h
theorem fscons (h1 : FS X Z W st g1) (h2 : FSs X Z W sts g2) : FSs X Z W (st :: sts) (sSeq g1 g2) := PSsimp (pss_cons h1 h2) seqT
theorem fsone (h1 : FS X Z W st g1) : FSs X Z W [st] g1 := pss_one h1
theorem fpass : FS X Z W (.Pass pos) sNil := PSimp ps_pass fun D σ H ⟨_, _, _, S, e, h⟩ => h.nx_ S e
theorem fbrk : FS X Z W (.Break pos) sBrk := PSimp ps_break fun D σ H ⟨_, _, _, S, e, h⟩ => h σ _ H pre_refl Stb.refl S e
theorem fct : FS X Z W (.Continue pos) sCt := PSimp ps_continue fun D σ H ⟨_, _, _, S, e, h⟩ => h σ _ H pre_refl Stb.refl S e
theorem fdoc {x j pos pos'} : FS X Z W (.Expr (.Constant (.str x) j pos) pos') sNil := PSimp ps_doc fun D σ H ⟨_, _, _, S, e, h⟩ => h.nx_ S e
theorem fexpr (he : FE X Z W e f) (hs : swapsWith e none pos.line X.env = pure false := by rfl) : FS X Z W (.Expr e pos) (sExpr f) := by
  refine PSimp (ps_expr he hs) fun D σ H ⟨ρ, G, env, S, e, h⟩ => ?_
  exact tG_mono (stepS S e h) fun v H1 ⟨ρ1, G1, x, p1, s1, S1, e1, r1, h1⟩ => h1.nx_ S1 e1
theorem fret (he : FE X Z W e f) : FS X Z W (.Return (some e) pos) (sRet f) := by
  refine PSimp (ps_ret he) fun D σ H ⟨ρ, G, env, S, e, h⟩ => ?_
  exact tG_mono (stepS S e h) fun v H1 ⟨ρ1, G1, x, p1, s1, S1, e1, r1, h1⟩ => h1 v _ _ pre_refl Stb.refl S1 r1
theorem fretN : FS X Z W (.Return none pos) sRetN := PSimp ps_retN fun D σ H ⟨_, _, _, S, e, h⟩ => h .non _ _ pre_refl Stb.refl S .non
theorem fsif {a b : List Stmt} (hc : FT X Z W c fc) (ha : FSs X Z W a g1) (hb : FSs X Z W b g2) : FS X Z W (.If c a b pos) (sIf fc g1 g2) := by
  refine PSimp (ps_if hc ha hb) fun D σ H ⟨ρ, G, env, S, e, h⟩ => ?_
  refine tG_mono (stepS S e h) fun v H1 ⟨ρ1, G1, x, p1, s1, S1, e1, r1, h1⟩ => ?_
  subst r1
  cases x with
  | true => exact ⟨ρ1, G1, env, S1, e1, h1⟩
  | false => exact ⟨ρ1, G1, env, S1, e1, h1⟩
/-! targets -/
def tgF (K : KZ) (gf : U → Ev → Gp → R Ev) : TG := fun v σ H Q => ∃ ρ G env u, Sim K ρ G H ∧ REq K ρ H env σ ∧ RU K ρ H u v ∧ Post K (REq K) ρ H (gf u env G) Q (fun _ _ _ => False)
abbrev FG (X : Cx) (Z : ZZ X.K) (e : Expr) (gf : U → Ev → Gp → R Ev) : Prop := PG X e (tgF (kz X Z) gf)
theorem fgname {i : Nat} {x : Str} (hN : X.N.Nodup) (hi : X.N[i]? = some x) (hx : Loc X.env.scope x) (hf : X.fn x = true ∨ X.env.scope.names.lookup x = some .local := by first | exact .inl rfl | exact .inr rfl | assumption) : FG X Z (.Name x pos) (gNm i) :=
  PGimp (pg_name hN hi hx hf) fun v σ H Q ⟨ρ, G, env, u, S, e, r, h⟩ => h.end_ S (e.set r i)
theorem toG {K : KZ} {W : WX} {gf : U → Ev → Gp → R Ev} {ρ1 : List Addr} {G1 : Gp} {H1 : Hp} {env : Ev} {σ : St} {x : U} {v : V} {D : Ends} (S1 : Sim K ρ1 G1 H1) (e1 : REq K ρ1 H1 env σ) (r1 : RU K ρ1 H1 x v)
    (hx : ∀ c fs G, gf x env G1 ≠ .exc c fs G) (h1 : PostS K ρ1 H1 ((gf x env G1).andThen env fun env' G2 => .nx env' G2) D W) : tgF K gf v σ H1 D.nx := by
  refine ⟨ρ1, G1, env, x, S1, e1, r1, ?_⟩
  cases q : gf x env G1 with
  | ok env' G' => rw [q] at h1; exact fun σ' ρ' H' p s S' e' => h1 σ' ρ' H' p s S' e'
  | exc c fs G' => exact absurd q (hx c fs G')
  | bad => rw [q] at h1; exact h1
/-- a target that lets no exception out -/
def NoX (gf : U → Ev → Gp → R Ev) : Prop := ∀ u env G c fs G', gf u env G ≠ .exc c fs G'
theorem fasg {tg : Expr} {gf : U → Ev → Gp → R Ev} (he : FE X Z W e f) (hg : FG X Z tg gf) (nx : NoX gf) (hs : swapsWithSole [tg] e pos.line X.env = pure false := by rfl) (hw : swappedStores [tg] e X.env = pure none := by rfl)
    (h1 : (assignEach [tg] X.env).map (·.2) = [assign tg X.env] := by rfl) : FS X Z W (.Assign [tg] e pos) (sAsg f gf) := by
  refine PSimp (ps_asg he hg hs hw h1) fun D σ H ⟨ρ, G, env, S, e, h⟩ => ?_
  exact tG_mono (stepS S e h) fun v H1 ⟨ρ1, G1, x, p1, s1, S1, e1, r1, h1⟩ => toG S1 e1 r1 (nx x env G1) h1
theorem fset {i : Nat} {x : Str} {pos' : Pos} (hN : X.N.Nodup) (hi : X.N[i]? = some x) (hx : Loc X.env.scope x) (he : FE X Z W e f) (hs : swapsWith e (some (.Name x pos')) pos.line X.env = pure false := by rfl)
    (hf : X.fn x = true ∨ X.env.scope.names.lookup x = some .local := by first | exact .inl rfl | exact .inr rfl | assumption) : FS X Z W (.Assign [.Name x pos'] e pos) (sAsg f (gNm i)) := by
  refine PSimp (ps_set hN hi hx he hs hf) fun D σ H ⟨ρ, G, env, S, e, h⟩ => ?_
  exact tG_mono (stepS S e h) fun v H1 ⟨ρ1, G1, x, p1, s1, S1, e1, r1, h1⟩ => h1 _ _ _ pre_refl Stb.refl S1 (e1.set r1 i)
theorem nxName (i : Nat) : NoX (gNm i) := fun _ _ _ _ _ _ h => nomatch h
end
/-! tuple targets -/
def gNil : List U → Ev → Gp → R Ev := fun us env G => match us with
  | [] => .ok env G
  | _ => .bad
def gCons (g : U → Ev → Gp → R Ev) (gs : List U → Ev → Gp → R Ev) : List U → Ev → Gp → R Ev := fun us env G => match us with
  | u :: r => (g u env G).bind fun env' G' => gs r env' G'
  | [] => .bad
def gTup (gs : List U → Ev → Gp → R Ev) (n : Nat) : U → Ev → Gp → R Ev := fun u env G => match u with
  | .tup xs => if xs.length = n then gs xs env G else .bad
  | _ => .bad
/-- a list or a tuple -/
def gSq (gs : List U → Ev → Gp → R Ev) (n : Nat) : U → Ev → Gp → R Ev := fun u env G => match u with
  | .tup xs => if xs.length = n then gs xs env G else .bad
  | .ref l => match G[l]? with
    | some (.lst xs) => if xs.length = n then gs xs env G else .bad
    | _ => .bad
  | _ => .bad
section
variable {X : Cx} {Z : ZZ X.K} {W : WX} {e : Expr} {es : List Expr} {pos : Pos}
def tgsF (K : KZ) (gs : List U → Ev → Gp → R Ev) : TGs := fun vs σ H Q => ∃ ρ G env us, Sim K ρ G H ∧ REq K ρ H env σ ∧ RUs K ρ H us vs ∧ Post K (REq K) ρ H (gs us env G) Q (fun _ _ _ => False)
abbrev FGs (X : Cx) (Z : ZZ X.K) (es : List Expr) (gs : List U → Ev → Gp → R Ev) : Prop := PGs X es (tgsF (kz X Z) gs)
theorem PGsimp {es : List Expr} {t t' : TGs} (h : PGs X es t) (i : ∀ vs σ H Q, t' vs σ H Q → t vs σ H Q) : PGs X es t' := ⟨fun pins s σ H vs us Q I r q => h.run pins s σ H vs us Q I r (i vs σ H Q q)⟩
theorem fgnil : FGs X Z [] gNil := by
  refine PGsimp pgs_nil fun vs σ H Q ⟨ρ, G, env, us, S, e, r, h⟩ => ?_
  cases r with
  | nil => exact ⟨rfl, h.end_ S e⟩
  | cons _ _ => exact h.elim
theorem fgcons {g : U → Ev → Gp → R Ev} {gs : List U → Ev → Gp → R Ev} (h1 : FG X Z e g) (h2 : FGs X Z es gs) (hs : (assignEach (e :: es) X.env).map (·.2) = assign e X.env :: (assignEach es X.env).map (·.2) := by rfl) : FGs X Z (e :: es) (gCons g gs) := by
  refine PGsimp (pgs_cons h1 h2 hs) fun vs σ H Q ⟨ρ, G, env, us, S, e, r, h⟩ => ?_
  cases r with
  | nil => exact h.elim
  | @cons x v xs vs hx hr =>
    refine ⟨v, vs, rfl, ρ, G, env, x, S, e, hx, ?_⟩
    have h : Post (kz X Z) (REq (kz X Z)) ρ H ((g x env G).bind fun env' G' => gs xs env' G') Q (fun _ _ _ => False) := h
    cases q : g x env G with
    | ok env' G' => rw [q] at h; exact fun σ' ρ' H' p s S' e' => ⟨ρ', G', env', xs, S', e', hr.mono p s, Post.lift h p s⟩
    | exc c fs G' => rw [q] at h; exact h
    | bad => rw [q] at h; exact h
theorem fgtup {k n : Nat} {gs : List U → Ev → Gp → R Ev} (hc : X.calm = true) (h : FGs X Z es gs) (hn : (assignEach es X.env).length = n := by rfl) (hst : (assignEach es X.env).findIdx? (·.1) = none := by rfl) : FG X Z (.Tuple es k pos) (gTup gs n) := by
  refine PGimp (pg_tup hc h hn hst) fun v σ H Q ⟨ρ, G, env, u, S, e, r, h⟩ => ?_
  cases r with
  | @tup xs vs a ht hr =>
    have h : Post (kz X Z) (REq (kz X Z)) ρ H (if xs.length = n then gs xs env G else .bad) Q (fun _ _ _ => False) := h
    by_cases hl : xs.length = n
    · rw [if_pos hl] at h
      exact ⟨a, vs, rfl, ht.sq, by rw [← hr.len]; exact hl, ρ, G, env, xs, S, e, hr, h⟩
    · rw [if_neg hl] at h; exact h.elim
  | _ => exact h.elim
end
end FL

set_option Elab.async false
set_option linter.all false
set_option maxRecDepth 100000
set_option maxHeartbeats 4000000
set_option autoImplicit false
namespace FL
open PySem PySem.Spec L2

def NoXs (gs : List U → Ev → Gp → R Ev) : Prop := ∀ us env G c fs G', gs us env G ≠ .exc c fs G'
theorem nxNil : NoXs gNil := fun us env G c fs G' h => by
  cases us <;> exact nomatch h
theorem nxCons {g : U → Ev → Gp → R Ev} {gs : List U → Ev → Gp → R Ev} (h1 : NoX g) (h2 : NoXs gs) : NoXs (gCons g gs) := fun us env G c fs G' h => by
  cases us with
  | nil => exact nomatch h
  | cons u r =>
    have h : (g u env G).bind (fun env' G' => gs r env' G') = .exc c fs G' := h
    cases q : g u env G with
    | ok env' G1 => rw [q] at h; exact h2 _ _ _ _ _ _ h
    | exc c' fs' G1 => exact h1 _ _ _ _ _ _ q
    | bad => rw [q] at h; exact nomatch h
theorem nxTup {gs : List U → Ev → Gp → R Ev} {n : Nat} (h : NoXs gs) : NoX (gTup gs n) := fun u env G c fs G' q => by
  cases u with
  | tup xs =>
    have q : (if xs.length = n then gs xs env G else .bad) = R.exc c fs G' := q
    by_cases hl : xs.length = n
    · rw [if_pos hl] at q; exact h _ _ _ _ _ _ q
    · rw [if_neg hl] at q; exact nomatch q
  | _ => exact nomatch q

/-! ### what is walked -/
inductive Src where
  | items (xs : List U)
  | live (n : Nat) (nth : Nat → Gp → Option (Option U))
def Src.at_ (s : Src) (i : Nat) (G : Gp) : Option (Option U) := match s with
  | .items xs => some xs[i]?
  | .live _ nth => nth i G
def Src.fuel (s : Src) : Nat := match s with
  | .items xs => xs.length + 1
  | .live n _ => n
/-- the iterator J, made at ρ0, H0, gives what the source tells -/
def Wk (K : KZ) (ρ0 : List Addr) (H0 : Hp) (src : Src) (J : It) : Prop := ∀ ρ H G i, ρ0 <+: ρ → Stb K H0 H → Sim K ρ G H → match src.at_ i G with
  | none => True
  | some none => J.stop i H
  | some (some u) => J.go i H ∧ ∀ x H', J.yld i H x H' → Stb K H H' ∧ Sim K ρ G H' ∧ RU K ρ H' u x
def tiF (K : KZ) (W : WX) (f : Ev → Gp → R Src) : TI := fun σ H Rr => ∃ ρ G env, Sim K ρ G H ∧ REq K ρ H env σ ∧ match f env G with
  | .ok src G' => ∀ ρ' H' J, ρ <+: ρ' → Stb K H H' → Sim K ρ' G' H' → Wk K ρ' H' src J → Rr J H'
  | .exc c fs G' => ∀ d vfs ρ' H', ρ <+: ρ' → Stb K H H' → Sim K ρ' G' H' → H' d = some (.xd vfs) → RFs K ρ' H' fs vfs → W (.ref (He.ga K.K c)) (some d) σ H'
  | .bad => False
abbrev FI (X : Cx) (Z : ZZ X.K) (W : WX) (tg e : Expr) (f : Ev → Gp → R Src) : Prop := PI X tg e (tiF (kz X Z) W f)
theorem PIimp {X : Cx} {tg e : Expr} {t t' : TI} (h : PI X tg e t) (i : ∀ σ H Q, t' σ H Q → t σ H Q) : PI X tg e t' := ⟨fun pins s σ H Q I q => h.run pins s σ H Q I (i σ H Q q)⟩

/-! sources made of values: k tells the source, the heap as it was -/
def iOf (f : Ev → Gp → R U) (k : U → Gp → Option Src) : Ev → Gp → R Src := fun env G => (f env G).bind fun u G1 => match k u G1 with
  | some src => .ok src G1
  | none => .bad
theorem iStep {K : KZ} {W : WX} {f : Ev → Gp → R U} {k : U → Gp → Option Src} {σ : St} {H : Hp} {Q : It → Hp → Prop} (h : tiF K W (iOf f k) σ H Q) :
    tF K W f σ H fun v H1 => ∃ ρ1 G1 u src, Sim K ρ1 G1 H1 ∧ RU K ρ1 H1 u v ∧ k u G1 = some src ∧ ∀ J, Wk K ρ1 H1 src J → Q J H1 := by
  obtain ⟨ρ, G, env, S, e, h⟩ := h
  refine ⟨ρ, G, env, S, e, ?_⟩
  unfold iOf at h
  cases q : f env G with
  | ok u G1 =>
    rw [q] at h
    intro v ρ1 H1 p s S1 r
    have h : (match (match k u G1 with
      | some src => R.ok src G1
      | none => R.bad : R Src) with
      | .ok src G' => ∀ ρ' H' J, ρ <+: ρ' → Stb K H H' → Sim K ρ' G' H' → Wk K ρ' H' src J → Q J H'
      | .exc c fs G' => ∀ d vfs ρ' H', ρ <+: ρ' → Stb K H H' → Sim K ρ' G' H' → H' d = some (.xd vfs) → RFs K ρ' H' fs vfs → W (.ref (He.ga K.K c)) (some d) σ H'
      | .bad => False) := h
    cases qk : k u G1 with
    | none => rw [qk] at h; exact h.elim
    | some src => rw [qk] at h; exact ⟨ρ1, G1, u, src, S1, r, qk, fun J w => h ρ1 H1 J p s S1 w⟩
  | exc c fs G1 => rw [q] at h; exact fun d vfs ρ' H' p s S' e1 e2 => h d vfs ρ' H' p s S' e1 e2
  | bad => rw [q] at h; exact h
/-- a list, a tuple as it stands -/
def kSeq (u : U) (G : Gp) : Option Src := match u with
  | .tup xs => some (.items xs)
  | .rl xs => some (.items xs)
  | .ref l => match G[l]? with
    | some (.lst xs) => some (.live (xs.length + 1) fun i G => match G[l]? with
      | some (.lst ys) => some ys[i]?
      | _ => none)
    | _ => none
  | _ => none
theorem Sim.list {K : KZ} {ρ : List Addr} {G : Gp} {H : Hp} (S : Sim K ρ G H) {l : Nat} {a : Addr} {xs : List U} (ha : ρ[l]? = some a) (hl : G[l]? = some (.lst xs)) : ∃ vs, H a = some (.lst vs) ∧ RUs K ρ H xs vs := by
  obtain ⟨ho, e, r⟩ := S.ob l _ a hl ha
  cases ho <;> first | exact r.elim | exact ⟨_, e, r⟩
theorem wk_tup {K : KZ} {ρ : List Addr} {H : Hp} {xs : List U} {vs : List V} {a : Addr} (h : TupAt K H a vs) (r : RUs K ρ H xs vs) : Wk K ρ H (.items xs) (Itt K.K a) := by
  intro ρ' H' G i p s S
  show match some xs[i]? with
    | none => True
    | some none => (Itt K.K a).stop i H'
    | some (some u) => (Itt K.K a).go i H' ∧ ∀ x H'', (Itt K.K a).yld i H' x H'' → Stb K H' H'' ∧ Sim K ρ' G H'' ∧ RU K ρ' H'' u x
  have h' := (s.tupAt h).sq
  cases q : xs[i]? with
  | none => exact ⟨vs, h', by rw [← r.len]; exact List.getElem?_eq_none_iff.mp q⟩
  | some u =>
    obtain ⟨v, e, rv⟩ := r.getU q
    refine ⟨⟨vs, v, h', e⟩, fun x H'' y => ?_⟩
    obtain ⟨rfl, y⟩ := y
    have := y vs h'
    rw [e] at this; cases this
    exact ⟨Stb.refl, S, rv.mono p s⟩
theorem wk_rl {K : KZ} {ρ : List Addr} {H : Hp} {xs : List U} {vs : List V} {a : Addr} (h : RLs K H a vs) (r : RUs K ρ H xs vs) : Wk K ρ H (.items xs) (Itl K.K a) := by
  intro ρ' H' G i p s S
  show match some xs[i]? with
    | none => True
    | some none => (Itl K.K a).stop i H'
    | some (some u) => (Itl K.K a).go i H' ∧ ∀ x H'', (Itl K.K a).yld i H' x H'' → Stb K H' H'' ∧ Sim K ρ' G H'' ∧ RU K ρ' H'' u x
  have h' := (s.rls h).sq
  cases q : xs[i]? with
  | none => exact ⟨vs, h', by rw [← r.len]; exact List.getElem?_eq_none_iff.mp q⟩
  | some u =>
    obtain ⟨v, e, rv⟩ := r.getU q
    refine ⟨⟨vs, v, h', e⟩, fun x H'' y => ?_⟩
    obtain ⟨rfl, y⟩ := y
    have := y vs h'
    rw [e] at this; cases this
    exact ⟨Stb.refl, S, rv.mono p s⟩
theorem wk_live {K : KZ} {ρ : List Addr} {H : Hp} {l : Nat} {a : Addr} {n : Nat} (ha : ρ[l]? = some a) : Wk K ρ H (.live n fun i G => match G[l]? with
      | some (.lst ys) => some ys[i]?
      | _ => none) (Itl K.K a) := by
  intro ρ' H' G i p s S
  show match (match G[l]? with
      | some (.lst ys) => some ys[i]?
      | _ => none : Option (Option U)) with
    | none => True
    | some none => (Itl K.K a).stop i H'
    | some (some u) => (Itl K.K a).go i H' ∧ ∀ x H'', (Itl K.K a).yld i H' x H'' → Stb K H' H'' ∧ Sim K ρ' G H'' ∧ RU K ρ' H'' u x
  cases q : G[l]? with
  | none => trivial
  | some o =>
    cases o with
    | lst ys =>
      obtain ⟨vs, e, r⟩ := S.list (pre_get p ha) q
      show match some ys[i]? with
        | none => True
        | some none => (Itl K.K a).stop i H'
        | some (some u) => (Itl K.K a).go i H' ∧ ∀ x H'', (Itl K.K a).yld i H' x H'' → Stb K H' H'' ∧ Sim K ρ' G H'' ∧ RU K ρ' H'' u x
      cases q2 : ys[i]? with
      | none => exact ⟨vs, SqL.of e, by rw [← r.len]; exact List.getElem?_eq_none_iff.mp q2⟩
      | some u =>
        obtain ⟨v, e2, rv⟩ := r.getU q2
        refine ⟨⟨vs, v, SqL.of e, e2⟩, fun x H'' y => ?_⟩
        obtain ⟨rfl, y⟩ := y
        have := y vs (SqL.of e)
        rw [e2] at this; cases this
        exact ⟨Stb.refl, S, rv⟩
    | _ => trivial
section
variable {X : Cx} {Z : ZZ X.K} {W : WX} {tg e : Expr} {f : Ev → Gp → R U} {pos : Pos}
/-- both iterables at once: a list or a tuple -/
def iSeqA (K : PySem.W.Frag) (t : TE) : TI := fun σ H Q => t σ H fun x H1 => ∃ a, x = .ref a ∧ (((∃ xs, SqL K H1 a xs) ∧ Q (Itl K a) H1) ∨ ((∃ xs, SqT K H1 a xs) ∧ Q (Itt K a) H1))
theorem pi_seqA {t : TE} (he : PE X e t) : PI X tg e (iSeqA X.K t) := by
  refine ⟨fun pins s σ H Rr I h => ?_⟩
  refine thn (he.run pins s σ H _ I h) fun v s1 ⟨x, H1, I1, r1, q1⟩ => ?_
  obtain ⟨a, rfl, q1⟩ := q1
  cases r1
  rcases q1 with ⟨⟨xs, hq⟩, q⟩ | ⟨⟨xs, hq⟩, q⟩
  · obtain ⟨its, rv, p, hz⟩ := I1.list hq
    refine wpAny_pyIter_list p.isList ?_
    refine ⟨s1.heap.objs.size, [s1.heap.objs.size], _, _, H1, rfl, I1.kept (t' := s1.toks) fun b o e => Heap.get?_push_of_some _ e, turn_list a _, ⟨_, Heap.get?_push_size _ rfl, rfl, rfl⟩, fun b hb => ?_, q⟩
    have e : b = s1.heap.objs.size := by simpa using hb
    subst e
    exact I1.fpOk (Nat.le_refl _) (I1.hok.fresh (Nat.le_refl _))
  · obtain ⟨its, rv, p, hz⟩ := I1.tuple hq
    refine wpAny_pyIter_tuple (show s1.heap.IsTuple a its.toArray from p) ?_
    refine ⟨s1.heap.objs.size, [s1.heap.objs.size], _, _, H1, rfl, I1.kept (t' := s1.toks) fun b o e => Heap.get?_push_of_some _ e, turn_tuple a _, ⟨_, Heap.get?_push_size _ rfl, rfl, rfl⟩, fun b hb => ?_, q⟩
    have e : b = s1.heap.objs.size := by simpa using hb
    subst e
    exact I1.fpOk (Nat.le_refl _) (I1.hok.fresh (Nat.le_refl _))
theorem fiseq (he : FE X Z W e f) : FI X Z W tg e (iOf f kSeq) := by
  refine PIimp (pi_seqA he) fun σ H Q h => ?_
  refine tG_mono (iStep h) fun v H1 ⟨ρ1, G1, u, src, S1, r1, hk, q⟩ => ?_
  cases r1 with
  | tup ht hr => cases hk; exact ⟨_, rfl, .inr ⟨⟨_, ht.sq⟩, q _ (wk_tup ht hr)⟩⟩
  | rl ht hr => cases hk; exact ⟨_, rfl, .inl ⟨⟨_, ht.sq⟩, q _ (wk_rl ht hr)⟩⟩
  | @ref l a ha =>
    unfold kSeq at hk
    simp only at hk
    cases q2 : G1[l]? with
    | none => rw [q2] at hk; exact nomatch hk
    | some o =>
      rw [q2] at hk
      cases o with
      | lst xs =>
        cases hk
        obtain ⟨vs, e, r⟩ := S1.list ha q2
        exact ⟨_, rfl, .inl ⟨⟨_, SqL.of e⟩, q _ (wk_live ha)⟩⟩
      | _ => exact nomatch hk
  | _ => exact nomatch hk
/-! ranges -/
def kRng1 (us : List U) (G : Gp) : Option Src := match us with
  | [.int j] => if -(2 ^ 62) ≤ j ∧ j < 2 ^ 62 then some (.live (j.toNat + 1) fun i _ => some (if i < j.toNat then some (.int (0 + (i : Nat))) else none)) else none
  | _ => none
def kRng2 (us : List U) (G : Gp) : Option Src := match us with
  | [.int i0, .int j] => if -(2 ^ 62) ≤ i0 ∧ i0 < 2 ^ 62 ∧ -(2 ^ 62) ≤ j ∧ j < 2 ^ 62 then some (.live ((j - i0).toNat + 1) fun i _ => some (if i < (j - i0).toNat then some (.int (i0 + (i : Nat))) else none)) else none
  | _ => none
def iOfs (f : Ev → Gp → R (List U)) (k : List U → Gp → Option Src) : Ev → Gp → R Src := fun env G => (f env G).bind fun us G1 => match k us G1 with
  | some src => .ok src G1
  | none => .bad
theorem iSteps {K : KZ} {W : WX} {f : Ev → Gp → R (List U)} {k : List U → Gp → Option Src} {σ : St} {H : Hp} {Q : It → Hp → Prop} (h : tiF K W (iOfs f k) σ H Q) :
    taF K W f σ H fun vs H1 => ∃ ρ1 G1 us src, Sim K ρ1 G1 H1 ∧ RUs K ρ1 H1 us vs ∧ k us G1 = some src ∧ ∀ J, Wk K ρ1 H1 src J → Q J H1 := by
  obtain ⟨ρ, G, env, S, e, h⟩ := h
  refine ⟨ρ, G, env, S, e, ?_⟩
  unfold iOfs at h
  cases q : f env G with
  | ok u G1 =>
    rw [q] at h
    intro v ρ1 H1 p s S1 r
    have h : (match (match k u G1 with
      | some src => R.ok src G1
      | none => R.bad : R Src) with
      | .ok src G' => ∀ ρ' H' J, ρ <+: ρ' → Stb K H H' → Sim K ρ' G' H' → Wk K ρ' H' src J → Q J H'
      | .exc c fs G' => ∀ d vfs ρ' H', ρ <+: ρ' → Stb K H H' → Sim K ρ' G' H' → H' d = some (.xd vfs) → RFs K ρ' H' fs vfs → W (.ref (He.ga K.K c)) (some d) σ H'
      | .bad => False) := h
    cases qk : k u G1 with
    | none => rw [qk] at h; exact h.elim
    | some src => rw [qk] at h; exact ⟨ρ1, G1, u, src, S1, r, qk, fun J w => h ρ1 H1 J p s S1 w⟩
  | exc c fs G1 => rw [q] at h; exact fun d vfs ρ' H' p s S' e1 e2 => h d vfs ρ' H' p s S' e1 e2
  | bad => rw [q] at h; exact h
theorem wk_rng {K : KZ} {ρ : List Addr} {H : Hp} {lo : Int} {n m : Nat} : Wk K ρ H (.live m fun i _ => some (if i < n then some (.int (lo + (i : Nat))) else none)) (Itr lo n) := by
  intro ρ' H' G i p s S
  show match some (if i < n then some (U.int (lo + (i : Nat))) else none) with
    | none => True
    | some none => (Itr lo n).stop i H'
    | some (some u) => (Itr lo n).go i H' ∧ ∀ x H'', (Itr lo n).yld i H' x H'' → Stb K H' H'' ∧ Sim K ρ' G H'' ∧ RU K ρ' H'' u x
  by_cases hi : i < n
  · rw [if_pos hi]
    refine ⟨hi, fun x H'' y => ?_⟩
    obtain ⟨rfl, rfl⟩ := y
    exact ⟨Stb.refl, S, .int _⟩
  · rw [if_neg hi]; exact Nat.le_of_not_lt hi
theorem RUs.one {K : KZ} {ρ : List Addr} {H : Hp} {x : U} {vs : List V} (r : RUs K ρ H [x] vs) : ∃ v, vs = [v] ∧ RU K ρ H x v := by
  cases r with
  | cons h t => cases t; exact ⟨_, rfl, h⟩
theorem RUs.two {K : KZ} {ρ : List Addr} {H : Hp} {x y : U} {vs : List V} (r : RUs K ρ H [x, y] vs) : ∃ v w, vs = [v, w] ∧ RU K ρ H x v ∧ RU K ρ H y w := by
  cases r with
  | cons h t => obtain ⟨w, rfl, h2⟩ := t.one; exact ⟨_, _, rfl, h, h2⟩
theorem fir1 {a : Expr} {fa : Ev → Gp → R (List U)} {p : Pos} (hg : Gl X "range") (hm : X.mg "range" = none) (ha : FA X Z W [a] fa) (hs : starEach [a] X.env = [(false, eval a X.env)] := by rfl) : FI X Z W tg (.Call (.Name "range" p) [a] [] pos) (iOfs fa kRng1) := by
  refine PIimp (pi_range1 hg hm ha hs) fun σ H Q h => ?_
  refine tG_mono (iSteps h) fun vs H1 ⟨ρ1, G1, us, src, S1, r1, hk, q⟩ => ?_
  unfold kRng1 at hk
  split at hk
  · rename_i j
    split at hk
    · rename_i hj
      cases hk
      obtain ⟨v, rfl, rv⟩ := r1.one
      cases rv
      exact ⟨j, rfl, hj.1, hj.2, q _ wk_rng⟩
    · exact nomatch hk
  · exact nomatch hk
theorem fir2 {a b : Expr} {fa : Ev → Gp → R (List U)} {p : Pos} (hg : Gl X "range") (hm : X.mg "range" = none) (ha : FA X Z W [a, b] fa) (hs : starEach [a, b] X.env = [(false, eval a X.env), (false, eval b X.env)] := by rfl) (hs2 : starEach [b] X.env = [(false, eval b X.env)] := by rfl) :
    FI X Z W tg (.Call (.Name "range" p) [a, b] [] pos) (iOfs fa kRng2) := by
  refine PIimp (pi_range2 hg hm ha hs hs2) fun σ H Q h => ?_
  refine tG_mono (iSteps h) fun vs H1 ⟨ρ1, G1, us, src, S1, r1, hk, q⟩ => ?_
  unfold kRng2 at hk
  split at hk
  · rename_i i j
    split at hk
    · rename_i hj
      cases hk
      obtain ⟨v, w, rfl, rv, rw'⟩ := r1.two
      cases rv
      cases rw'
      exact ⟨i, j, rfl, hj, q _ wk_rng⟩
    · exact nomatch hk
  · exact nomatch hk
end

/-! ### for, while -/
def forN (nth : Nat → Gp → Option (Option U)) (gf : U → Ev → Gp → R Ev) (body : Ev → Gp → SR) : Nat → Nat → Ev → Gp → SR
  | 0, _, _, _ => .bad
  | n + 1, i, env, G => match nth i G with
    | none => .bad
    | some none => .nx env G
    | some (some u) => (gf u env G).andThen env fun env1 G1 => match body env1 G1 with
      | .nx env' G' => forN nth gf body n (i + 1) env' G'
      | .ct env' G' => forN nth gf body n (i + 1) env' G'
      | .brk env' G' => .nx env' G'
      | r => r
/-- over written items -/
def forL (gf : U → Ev → Gp → R Ev) (body : Ev → Gp → SR) : List U → Ev → Gp → SR
  | [], env, G => .nx env G
  | u :: us, env, G => (gf u env G).andThen env fun env1 G1 => match body env1 G1 with
    | .nx env' G' => forL gf body us env' G'
    | .ct env' G' => forL gf body us env' G'
    | .brk env' G' => .nx env' G'
    | r => r
def sFor (fi : Ev → Gp → R Src) (gf : U → Ev → Gp → R Ev) (body : Ev → Gp → SR) : Ev → Gp → SR := fun env G => (fi env G).andThen env fun src G1 => match src with
  | .items xs => forL gf body xs env G1
  | .live n nth => forN nth gf body n 0 env G1
theorem forL_drop {gf : U → Ev → Gp → R Ev} {body : Ev → Gp → SR} {xs : List U} : ∀ (m i : Nat) (env : Ev) (G : Gp), m = xs.length + 1 - i → i ≤ xs.length → forN (fun i _ => some xs[i]?) gf body m i env G = forL gf body (xs.drop i) env G := by
  intro m
  induction m with
  | zero => intro i env G h1 h2; omega
  | succ m ih =>
    intro i env G h1 h2
    by_cases hi : i < xs.length
    · have e : xs.drop i = xs[i] :: xs.drop (i + 1) := List.drop_eq_getElem_cons hi
      rw [e]
      show (match some xs[i]? with
        | none => SR.bad
        | some none => .nx env G
        | some (some u) => _) = _
      rw [List.getElem?_eq_getElem hi]
      show (gf xs[i] env G).andThen env _ = (gf xs[i] env G).andThen env _
      congr 1
      funext env1 G1
      cases q : body env1 G1 with
      | nx env' G' => exact ih (i + 1) env' G' (by omega) hi
      | ct env' G' => exact ih (i + 1) env' G' (by omega) hi
      | _ => rfl
    · have e : i = xs.length := by omega
      subst e
      rw [List.drop_length]
      show (match some xs[xs.length]? with
        | none => SR.bad
        | some none => .nx env G
        | some (some u) => _) = _
      rw [List.getElem?_eq_none (Nat.le_refl _)]
      rfl
def Src.nth (s : Src) : Nat → Gp → Option (Option U) := fun i G => s.at_ i G
theorem sFor_run {src : Src} {gf : U → Ev → Gp → R Ev} {body : Ev → Gp → SR} {env : Ev} {G1 : Gp} : (match src with
  | .items xs => forL gf body xs env G1
  | .live n nth => forN nth gf body n 0 env G1) = forN src.nth gf body src.fuel 0 env G1 := by
  cases src with
  | items xs =>
    show forL gf body xs env G1 = forN (fun i _ => some xs[i]?) gf body (xs.length + 1) 0 env G1
    rw [forL_drop (xs.length + 1) 0 env G1 (by omega) (Nat.zero_le _)]
    rfl
  | live n nth => rfl
section
variable {X : Cx} {Z : ZZ X.K} {W : WX} {tg e c : Expr} {body : List Stmt} {fi : Ev → Gp → R Src} {gf : U → Ev → Gp → R Ev} {g : Ev → Gp → SR} {fc : Ev → Gp → R Bool} {pos : Pos}
theorem fsfor (hp : PassesOwn (model X.prog X.w) X.A X.env X.xe) (hc : X.calm = true) (hi : FI X Z W tg e fi) (hg : FG X Z tg gf) (nx : NoX gf) (hb : FSs X Z W body g) (hs : ∀ x, foldedSetIterable e X.env x = pure x := by intro _; rfl) :
    FS X Z W (.For tg e body [] pos) (sFor fi gf g) := by
  refine PSimp (ps_for hp hc hi hg hb hs) fun D σ H ⟨ρ, G, env, S, e, h⟩ => ?_
  refine ⟨ρ, G, env, S, e, ?_⟩
  unfold sFor at h
  cases q : fi env G with
  | bad => rw [q] at h; exact h
  | exc c fs G1 => rw [q] at h; exact fun d vfs ρ' H' p s S' e1 e2 => h σ d vfs ρ' H' p s S' (e.mono p s) e1 e2
  | ok src G1 =>
    rw [q] at h
    have h : PostS (kz X Z) ρ H (forN src.nth gf g src.fuel 0 env G1) D W := by rw [← sFor_run]; exact h
    intro ρ1 H1 J p1 s1 S1 wk
    refine ⟨fun i m σ H => ∃ ρ2 G2 env2, ρ1 <+: ρ2 ∧ Stb (kz X Z) H1 H ∧ Sim (kz X Z) ρ2 G2 H ∧ REq (kz X Z) ρ2 H env2 σ ∧ PostS (kz X Z) ρ2 H (forN src.nth gf g m i env2 G2) D W, ⟨src.fuel, ρ1, G1, env, pre_refl, Stb.refl, S1, e.mono p1 s1, h.lift p1 s1⟩, ?_⟩
    rintro i m σ2 H2 ⟨ρ2, G2, env2, p2, s2, S2, e2, h2⟩
    cases m with
    | zero => exact h2.elim
    | succ m =>
      have w := wk ρ2 H2 G2 i p2 s2 S2
      unfold forN at h2
      have en : src.nth i G2 = src.at_ i G2 := rfl
      rw [en] at h2
      cases qn : src.at_ i G2 with
      | none => rw [qn] at h2; exact h2.elim
      | some o =>
        rw [qn] at h2 w
        cases o with
        | none => exact .inl ⟨w, h2.nx_ S2 e2⟩
        | some u =>
          refine .inr ⟨w.1, fun σ' H' => ∃ ρ3 G3 env3, ρ1 <+: ρ3 ∧ Stb (kz X Z) H1 H' ∧ Sim (kz X Z) ρ3 G3 H' ∧ REq (kz X Z) ρ3 H' env3 σ' ∧ PostS (kz X Z) ρ3 H' (forN src.nth gf g m (i + 1) env3 G3) D W, fun σ' H' z => ⟨m, Nat.lt_succ_self m, z⟩, fun x H3 y => ?_⟩
          obtain ⟨s3, S3, rx⟩ := w.2 x H3 y
          have h3 := h2.lift pre_refl s3
          refine ⟨ρ2, G2, env2, u, S3, e2.mono pre_refl s3, rx, ?_⟩
          have h3 : PostS (kz X Z) ρ2 H3 ((gf u env2 G2).andThen env2 fun env1 G1 => match g env1 G1 with
            | .nx env' G' => forN src.nth gf g m (i + 1) env' G'
            | .ct env' G' => forN src.nth gf g m (i + 1) env' G'
            | .brk env' G' => .nx env' G'
            | r => r) D W := h3
          cases qg : gf u env2 G2 with
          | bad => rw [qg] at h3; exact h3
          | exc c fs G' => exact absurd qg (nx u env2 G2 c fs G')
          | ok env3 G3 =>
            rw [qg] at h3
            intro σ4 ρ4 H4 p4 s4 S4 e4
            refine ⟨ρ4, G3, env3, S4, e4, ?_⟩
            have h4 : PostS (kz X Z) ρ4 H4 (match g env3 G3 with
              | .nx env' G' => forN src.nth gf g m (i + 1) env' G'
              | .ct env' G' => forN src.nth gf g m (i + 1) env' G'
              | .brk env' G' => .nx env' G'
              | r => r) D W := h3.lift p4 s4
            have pp : ρ1 <+: ρ4 := p2.trans p4
            have ss : Stb (kz X Z) H1 H4 := (s2.trans s3).trans s4
            cases qb : g env3 G3 with
            | nx env' G' => rw [qb] at h4; exact fun σ' ρ' H' p s S' e' => ⟨ρ', G', env', pp.trans p, ss.trans s, S', e', h4.lift p s⟩
            | ct env' G' => rw [qb] at h4; exact fun σ' ρ' H' p s S' e' => ⟨ρ', G', env', pp.trans p, ss.trans s, S', e', h4.lift p s⟩
            | brk env' G' => rw [qb] at h4; exact fun σ' ρ' H' p s S' e' => h4 σ' ρ' H' p s S' e'
            | ret u G' => rw [qb] at h4; exact h4
            | exc c fs env' G' => rw [qb] at h4; exact h4
            | bad => rw [qb] at h4; exact h4
end
/-- while: n bounds the turns -/
def whileN (fc : Ev → Gp → R Bool) (body : Ev → Gp → SR) : Nat → Ev → Gp → SR
  | 0, _, _ => .bad
  | n + 1, env, G => (fc env G).andThen env fun b G1 => if b = true then (match body env G1 with
      | .nx env' G' => whileN fc body n env' G'
      | .ct env' G' => whileN fc body n env' G'
      | .brk env' G' => .nx env' G'
      | r => r) else .nx env G1
section
variable {X : Cx} {Z : ZZ X.K} {W : WX} {c : Expr} {body : List Stmt} {g : Ev → Gp → SR} {fc : Ev → Gp → R Bool} {pos : Pos}
theorem fswhile (n : Nat) (hp : PassesOwn (model X.prog X.w) X.A X.env X.xe) (hc : FT X Z W c fc) (hb : FSs X Z W body g) : FS X Z W (.While c body [] pos) (whileN fc g n) := by
  refine PSimp (ps_while hp hc hb) fun D σ H ⟨ρ, G, env, S, e, h⟩ => ?_
  refine ⟨fun m σ' H' => ∃ ρ2 G2 env2, ρ <+: ρ2 ∧ Stb (kz X Z) H H' ∧ Sim (kz X Z) ρ2 G2 H' ∧ REq (kz X Z) ρ2 H' env2 σ' ∧ PostS (kz X Z) ρ2 H' (whileN fc g m env2 G2) D W, ⟨n, ρ, G, env, pre_refl, Stb.refl, S, e, h⟩, ?_⟩
  rintro m σ2 H2 ⟨ρ2, G2, env2, p2, s2, S2, e2, h2⟩
  cases m with
  | zero => exact h2.elim
  | succ m =>
    unfold whileN at h2
    refine tG_mono (stepS (rel := fun _ _ a b => a = b) S2 e2 h2) fun b H3 ⟨ρ3, G3, x, p3, s3, S3, e3, r3, h3⟩ => ?_
    subst r3
    cases x with
    | false => exact h3.nx_ S3 e3
    | true =>
      rw [if_pos rfl]
      have h3 : PostS (kz X Z) ρ3 H3 (match g env2 G3 with
        | .nx env' G' => whileN fc g m env' G'
        | .ct env' G' => whileN fc g m env' G'
        | .brk env' G' => .nx env' G'
        | r => r) D W := h3
      refine ⟨fun σ' H' => ∃ ρ4 G4 env4, ρ <+: ρ4 ∧ Stb (kz X Z) H H' ∧ Sim (kz X Z) ρ4 G4 H' ∧ REq (kz X Z) ρ4 H' env4 σ' ∧ PostS (kz X Z) ρ4 H' (whileN fc g m env4 G4) D W, fun σ' H' z => ⟨m, Nat.lt_succ_self m, z⟩, ρ3, G3, env2, S3, e3, ?_⟩
      have pp : ρ <+: ρ3 := p2.trans p3
      have ss : Stb (kz X Z) H H3 := s2.trans s3
      cases qb : g env2 G3 with
      | nx env' G' => rw [qb] at h3; exact fun σ' ρ' H' p s S' e' => ⟨ρ', G', env', pp.trans p, ss.trans s, S', e', h3.lift p s⟩
      | ct env' G' => rw [qb] at h3; exact fun σ' ρ' H' p s S' e' => ⟨ρ', G', env', pp.trans p, ss.trans s, S', e', h3.lift p s⟩
      | brk env' G' => rw [qb] at h3; exact fun σ' ρ' H' p s S' e' => h3 σ' ρ' H' p s S' e'
      | ret u G' => rw [qb] at h3; exact h3
      | exc c fs env' G' => rw [qb] at h3; exact h3
      | bad => rw [qb] at h3; exact h3
end
end FL

set_option Elab.async false
set_option linter.all false
set_option maxRecDepth 100000
set_option maxHeartbeats 4000000
set_option autoImplicit false
namespace FL
open PySem PySem.Spec L2

/-! ### ints -/
def mulOk (i j : Int) : Bool := decide (i.natAbs < 2 ^ 64) || decide (j.natAbs < 2 ^ 64) || decide (Builtin.Int.intBits i + Builtin.Int.intBits j ≤ 134217728)
def gAdd (x y : U) (G : Gp) : R U := match x, y with
  | .int i, .int j => .ok (.int (i + j)) G
  | .str a, .str b => if a.length + b.length ≤ 16777216 then .ok (.str (a ++ b)) G else .bad
  | .tup a, .tup b => if a.length + b.length ≤ 16777216 then .ok (.tup (a ++ b)) G else .bad
  | .ref l, .ref m => match G[l]?, G[m]? with
    | some (.lst a), some (.lst b) => if a.length + b.length ≤ 16777216 then .ok (.ref G.length) (G ++ [.lst (a ++ b)]) else .bad
    | _, _ => .bad
  | _, _ => .bad
def gSub (x y : U) (G : Gp) : R U := match x, y with
  | .int i, .int j => .ok (.int (i - j)) G
  | _, _ => .bad
def gMul (x y : U) (G : Gp) : R U := match x, y with
  | .int i, .int j => if mulOk i j = true then .ok (.int (i * j)) G else .bad
  | .ref l, .int k => match G[l]? with
    | some (.lst a) => if -(2 ^ 63) ≤ k ∧ k < 2 ^ 63 ∧ a.length * k.toNat ≤ 16777216 then .ok (.ref G.length) (G ++ [.lst (List.replicate k.toNat a).flatten]) else .bad
    | _ => .bad
  | _, _ => .bad
def gFdiv (x y : U) (G : Gp) : R U := match x, y with
  | .int i, .int j => if 0 < j ∧ j.natAbs < 2 ^ 1000 then .ok (.int (i / j)) G else .bad
  | _, _ => .bad
def gMod (x y : U) (G : Gp) : R U := match x, y with
  | .int i, .int j => if 0 < j then .ok (.int (i % j)) G else .bad
  | _, _ => .bad
def gPow (x y : U) (G : Gp) : R U := match x, y with
  | .int i, .int j => if 0 ≤ j ∧ j ≤ 1000000 ∧ i.natAbs < 2 ^ 64 then .ok (.int (i ^ j.toNat)) G else .bad
  | _, _ => .bad
def gNeg (x : U) (G : Gp) : R U := match x with
  | .int i => .ok (.int (-i)) G
  | _ => .bad
section
variable {K : KZ}
theorem natAbs_64 {i : Int} (h : i.natAbs < 2 ^ 64) : -(2 ^ 64) < i ∧ i < 2 ^ 64 := by
  have e : (2 : Nat) ^ 64 = 18446744073709551616 := by decide
  have e2 : (2 : Int) ^ 64 = 18446744073709551616 := by decide
  rw [e] at h
  rw [e2]
  omega
def rAddA (K : PySem.W.Frag) : R2 := fun x y H Q => (((rI0 fun i j => .int (i + j)) x y H Q ∨ (∃ i j, x = .str i ∧ y = .str j ∧ i.length + j.length ≤ sizeLine ∧ Q (.str (i ++ j)) H)) ∨ rCatA K x y H Q) ∨ rCat x y H Q
theorem orAdd {X : Cx} : OpR X (binaryOp .Add) (rAddA X.K) := ((op_add.or op_add_str).or op_catA).or op_cat
theorem o2Add : Op2 K (rAddA K.K) gAdd := by
  intro ρ G H x y v w Q E S rx ry h
  cases rx with
  | int i =>
    cases ry with
    | int j => exact .inl (.inl (.inl ⟨i, j, rfl, rfl, h.end_ S (.int _)⟩))
    | _ => exact h.elim
  | str a =>
    cases ry with
    | str b =>
      unfold gAdd at h
      simp only at h
      by_cases hl : a.length + b.length ≤ 16777216
      · rw [if_pos hl] at h
        exact .inl (.inl (.inr ⟨a, b, rfl, rfl, by rw [line_eq]; exact hl, h.end_ S (.str _)⟩))
      · rw [if_neg hl] at h; exact h.elim
    | _ => exact h.elim
  | @tup xs vs p hp hr =>
    cases ry with
    | @tup ys ws q hq hs =>
      unfold gAdd at h
      simp only at h
      by_cases hl : xs.length + ys.length ≤ 16777216
      · rw [if_pos hl] at h
        refine .inl (.inr ⟨p, q, vs, ws, rfl, rfl, hp.sq, hq.sq, by rw [← hr.len, ← hs.len, line_eq]; exact hl, fun e => ?_, fun _ e => ?_, fun _ _ => newTup S (hr.append hs) h⟩)
        · subst e
          cases hr
          exact h.end_ S (.tup hq hs)
        · subst e
          cases hs
          rw [List.append_nil] at h
          exact h.end_ S (.tup hp hr)
      · rw [if_neg hl] at h; exact h.elim
    | _ => exact h.elim
  | @ref l p hp =>
    cases ry with
    | @ref m q hq =>
      unfold gAdd at h
      simp only at h
      cases e1 : G[l]? with
      | none => simp only [e1] at h; exact h.elim
      | some o1 =>
        cases e2 : G[m]? with
        | none => simp only [e1, e2] at h; cases o1 <;> exact h.elim
        | some o2 =>
          simp only [e1, e2] at h
          cases o1 with
          | lst a =>
            cases o2 with
            | lst b =>
              simp only at h
              by_cases hl : a.length + b.length ≤ 16777216
              · rw [if_pos hl] at h
                obtain ⟨vs, h1, r1⟩ := S.list hp e1
                obtain ⟨ws, h2, r2⟩ := S.list hq e2
                exact .inr ⟨p, q, vs, ws, rfl, rfl, h1, h2, by rw [← r1.len, ← r2.len, line_eq]; exact hl, newLst S (r1.append r2) h⟩
              · rw [if_neg hl] at h; exact h.elim
            | _ => exact h.elim
          | _ => exact h.elim
    | _ => exact h.elim
  | _ => exact h.elim
theorem o2Sub : Op2 K (rI0 fun i j => .int (i - j)) gSub := by
  intro ρ G H x y v w Q E S rx ry h
  cases rx with
  | int i =>
    cases ry with
    | int j => exact ⟨i, j, rfl, rfl, h.end_ S (.int _)⟩
    | _ => exact h.elim
  | _ => exact h.elim
def rMulA : R2 := fun x y H Q => (rI CMul (fun i j => .int (i * j)) x y H Q ∨ rI CMulX (fun i j => .int (i * j)) x y H Q) ∨ rRep x y H Q
theorem orMul {X : Cx} : OpR X (binaryOp .Mult) rMulA := (op_mul.or op_mulX).or op_rep
theorem flatten_rel {ρ : List Addr} {H : Hp} {a : List U} {vs : List V} (r : RUs K ρ H a vs) : ∀ n : Nat, RUs K ρ H (List.replicate n a).flatten (List.replicate n vs).flatten
  | 0 => .nil
  | n + 1 => by
    rw [List.replicate_succ, List.replicate_succ, List.flatten_cons, List.flatten_cons]
    exact r.append (flatten_rel r n)
theorem o2Mul : Op2 K rMulA gMul := by
  intro ρ G H x y v w Q E S rx ry h
  cases rx with
  | int i =>
    cases ry with
    | int j =>
      unfold gMul at h
      simp only at h
      by_cases hm : mulOk i j = true
      · rw [if_pos hm] at h
        have q := h.end_ S (.int _)
        unfold mulOk at hm
        rw [Bool.or_eq_true, Bool.or_eq_true] at hm
        rcases hm with (hm | hm) | hm
        · exact .inl (.inl ⟨i, j, rfl, rfl, .inl (natAbs_64 (of_decide_eq_true hm)), q⟩)
        · exact .inl (.inl ⟨i, j, rfl, rfl, .inr (natAbs_64 (of_decide_eq_true hm)), q⟩)
        · exact .inl (.inr ⟨i, j, rfl, rfl, by have := of_decide_eq_true hm; unfold CMulX; omega, q⟩)
      · rw [if_neg hm] at h; exact h.elim
    | _ => exact h.elim
  | @ref l p hp =>
    cases ry with
    | int k =>
      unfold gMul at h
      simp only at h
      cases e1 : G[l]? with
      | none => simp only [e1] at h; exact h.elim
      | some o1 =>
        simp only [e1] at h
        cases o1 with
        | lst a =>
          simp only at h
          by_cases hk : -(2 ^ 63) ≤ k ∧ k < 2 ^ 63 ∧ a.length * k.toNat ≤ 16777216
          · rw [if_pos hk] at h
            obtain ⟨vs, h1, r1⟩ := S.list hp e1
            exact .inr ⟨p, k, vs, rfl, rfl, h1, hk.1, hk.2.1, by rw [← r1.len, line_eq]; exact hk.2.2, newLst S (flatten_rel r1 _) h⟩
          · rw [if_neg hk] at h; exact h.elim
        | _ => exact h.elim
    | _ => exact h.elim
  | _ => exact h.elim
theorem o2Fdiv : Op2 K (rI CDivW fun i j => .int (i / j)) gFdiv := by
  intro ρ G H x y v w Q E S rx ry h
  cases rx with
  | int i =>
    cases ry with
    | int j =>
      unfold gFdiv at h
      simp only at h
      by_cases hj : 0 < j ∧ j.natAbs < 2 ^ 1000
      · rw [if_pos hj] at h
        exact ⟨i, j, rfl, rfl, wide_div hj.1 hj.2 (by decide) (by decide), h.end_ S (.int _)⟩
      · rw [if_neg hj] at h; exact h.elim
    | _ => exact h.elim
  | _ => exact h.elim
theorem o2Mod : Op2 K (rI (fun _ j => 0 < j) fun i j => .int (i % j)) gMod := by
  intro ρ G H x y v w Q E S rx ry h
  cases rx with
  | int i =>
    cases ry with
    | int j =>
      unfold gMod at h
      simp only at h
      by_cases hj : 0 < j
      · rw [if_pos hj] at h
        exact ⟨i, j, rfl, rfl, hj, h.end_ S (.int _)⟩
      · rw [if_neg hj] at h; exact h.elim
    | _ => exact h.elim
  | _ => exact h.elim
theorem o2Pow : Op2 K (rI CPow fun i j => .int (i ^ j.toNat)) gPow := by
  intro ρ G H x y v w Q E S rx ry h
  cases rx with
  | int i =>
    cases ry with
    | int j =>
      unfold gPow at h
      simp only at h
      by_cases hj : 0 ≤ j ∧ j ≤ 1000000 ∧ i.natAbs < 2 ^ 64
      · rw [if_pos hj] at h
        exact ⟨i, j, rfl, rfl, hj, h.end_ S (.int _)⟩
      · rw [if_neg hj] at h; exact h.elim
    | _ => exact h.elim
  | _ => exact h.elim
theorem o1Neg : Op1 K (rU fun i => .int (-i)) gNeg := by
  intro ρ G H x v Q E S rx h
  cases rx with
  | int i => exact ⟨i, rfl, h.end_ S (.int _)⟩
  | _ => exact h.elim
end
section
variable {X : Cx} {Z : ZZ X.K} {W : WX} {a b : Expr} {fa fb : Ev → Gp → R U} {pos : Pos}
theorem fadd (ha : FE X Z W a fa) (hb : FE X Z W b fb) : FE X Z W (.BinOp a .Add b pos) (eBin gAdd fa fb) := fop o2Add orAdd ha hb
theorem fsub (ha : FE X Z W a fa) (hb : FE X Z W b fb) : FE X Z W (.BinOp a .Sub b pos) (eBin gSub fa fb) := fop o2Sub op_sub ha hb
theorem fmul (ha : FE X Z W a fa) (hb : FE X Z W b fb) : FE X Z W (.BinOp a .Mult b pos) (eBin gMul fa fb) := fop o2Mul orMul ha hb
theorem ffdiv (ha : FE X Z W a fa) (hb : FE X Z W b fb) : FE X Z W (.BinOp a .FloorDiv b pos) (eBin gFdiv fa fb) := fop o2Fdiv op_fdivW ha hb
theorem fmod (ha : FE X Z W a fa) (hb : FE X Z W b fb) : FE X Z W (.BinOp a .Mod b pos) (eBin gMod fa fb) := fop o2Mod op_mod ha hb
theorem fpow (ha : FE X Z W a fa) (hb : FE X Z W b fb) : FE X Z W (.BinOp a .Pow b pos) (eBin gPow fa fb) := fop o2Pow op_pow ha hb
theorem fneg (ha : FE X Z W a fa) : FE X Z W (.UnaryOp .USub a pos) (eUn gNeg fa) := fun1 o1Neg un_neg ha
end

/-! ### comparisons -/
def gCmpI (p : Int → Int → Bool) (x y : U) (G : Gp) : R U := match x, y with
  | .int i, .int j => .ok (.bl (p i j)) G
  | _, _ => .bad
def scalEq : U → U → Option Bool
  | .non, .non => some true | .non, .int _ => some false | .int _, .non => some false | .non, .bl _ => some false | .bl _, .non => some false | .non, .str _ => some false | .str _, .non => some false
  | .int i, .int j => some (decide (i = j)) | .bl i, .bl j => some (decide (i = j)) | .str i, .str j => some (decide (i = j))
  | .int _, .str _ => some false | .str _, .int _ => some false | .bl _, .str _ => some false | .str _, .bl _ => some false
  | _, _ => none
def optAll {α β : Type} (f : α → Option β) : List α → Option (List β)
  | [] => some []
  | x :: xs => match f x, optAll f xs with
    | some y, some ys => some (y :: ys)
    | _, _ => none
def toD (G : Gp) : Nat → U → Option PyData
  | _, .non => some .none
  | _, .bl b => some (.bool b)
  | _, .int i => some (.int i)
  | _, .str x => some (.str x)
  | 0, _ => none
  | n + 1, .tup xs => (optAll (toD G n) xs).map .tuple
  | n + 1, .rl xs => (optAll (toD G n) xs).map .list
  | n + 1, .ref l => match G[l]? with
    | some (.lst xs) => (optAll (toD G n) xs).map .list
    | _ => none
def eqU (G : Gp) (x y : U) : Option Bool := match scalEq x y with
  | some b => some b
  | none => match toD G 40 x, toD G 40 y with
    | some d, some e => if SeqAt.shaped d = true ∧ SeqAt.shaped e = true then some (PyData.eqv d e) else none
    | _, _ => none
def gEq (x y : U) (G : Gp) : R U := match eqU G x y with
  | some b => .ok (.bl b) G
  | none => .bad
def gNe (x y : U) (G : Gp) : R U := match eqU G x y with
  | some b => .ok (.bl (!b)) G
  | none => .bad
section
variable {K : KZ} {ρ : List Addr} {G : Gp} {H : Hp}
theorem o2CmpI {p : Int → Int → Bool} : Op2 K (rI0 fun i j => .bl (p i j)) (gCmpI p) := by
  intro ρ G H x y v w Q E S rx ry h
  cases rx with
  | int i =>
    cases ry with
    | int j => exact ⟨i, j, rfl, rfl, h.end_ S (.bl _)⟩
    | _ => exact h.elim
  | _ => exact h.elim
theorem scalEq_ok {x y : U} {v w : V} (rx : RU K ρ H x v) (ry : RU K ρ H y w) {b : Bool} (h : scalEq x y = some b) : scal v w = true ∧ decide (v = w) = b := by
  cases rx <;> cases ry <;> first
    | (cases h; done)
    | (cases h; exact ⟨rfl, rfl⟩)
    | (cases h; refine ⟨rfl, ?_⟩; simp)
theorem optAll_ok {f : U → Option PyData} (hf : ∀ x v d, RU K ρ H x v → f x = some d → Dp K.K H v d) : ∀ {xs : List U} {vs : List V} {ds : List PyData}, RUs K ρ H xs vs → optAll f xs = some ds → DpAll K.K H vs ds
  | _, _, ds, .nil, h => by cases h; exact .nil
  | _, _, ds, .cons (x := x) (xs := xs) hx ht, h => by
    unfold optAll at h
    cases e1 : f x with
    | none => rw [e1] at h; exact nomatch h
    | some y =>
      cases e2 : optAll f xs with
      | none => rw [e1, e2] at h; exact nomatch h
      | some ys => rw [e1, e2] at h; cases h; exact .cons (hf _ _ _ hx e1) (optAll_ok hf ht e2)
theorem toD_ok (S : Sim K ρ G H) : ∀ (n : Nat) (x : U) (v : V) (d : PyData), RU K ρ H x v → toD G n x = some d → Dp K.K H v d := by
  intro n
  induction n with
  | zero =>
    intro x v d r h
    cases r <;> first
      | (cases h; done)
      | (cases h; constructor)
  | succ n ih =>
    intro x v d r h
    cases r with
    | tup hp hr =>
      unfold toD at h
      cases e : optAll (toD G n) _ with
      | none => rw [e] at h; exact nomatch h
      | some ds => rw [e] at h; cases h; exact .tup hp.sq (optAll_ok ih hr e)
    | rl hp hr =>
      unfold toD at h
      cases e : optAll (toD G n) _ with
      | none => rw [e] at h; exact nomatch h
      | some ds => rw [e] at h; cases h; exact .lst hp.sq (optAll_ok ih hr e)
    | @ref l a ha =>
      unfold toD at h
      cases q : G[l]? with
      | none => rw [q] at h; exact nomatch h
      | some o =>
        rw [q] at h
        cases o with
        | lst xs =>
          simp only at h
          obtain ⟨vs, e1, r1⟩ := S.list ha q
          cases e : optAll (toD G n) xs with
          | none => rw [e] at h; exact nomatch h
          | some ds => rw [e] at h; cases h; exact .lst (SqL.of e1) (optAll_ok ih r1 e)
        | _ => exact nomatch h
    | _ => cases h; constructor
def rEqA (K : PySem.W.Frag) : R2 := fun x y H Q => rEq x y H Q ∨ rEqD K x y H Q
def rNeA (K : PySem.W.Frag) : R2 := fun x y H Q => rNe x y H Q ∨ rNeD K x y H Q
theorem orEq {X : Cx} (hu : X.A.units + 64 < cLine) : OpR X (compareOp .Eq) (rEqA X.K) := op_eq.or (op_eqD hu)
theorem orNe {X : Cx} (hu : X.A.units + 64 < cLine) : OpR X (compareOp .NotEq) (rNeA X.K) := op_ne.or (op_neD hu)
theorem eqU_ok (S : Sim K ρ G H) {x y : U} {v w : V} (rx : RU K ρ H x v) (ry : RU K ρ H y w) {b : Bool} (h : eqU G x y = some b) :
    (scal v w = true ∧ decide (v = w) = b) ∨ ∃ d e, Dp K.K H v d ∧ Dp K.K H w e ∧ SeqAt.shaped d = true ∧ SeqAt.shaped e = true ∧ PyData.eqv d e = b := by
  unfold eqU at h
  cases q : scalEq x y with
  | some c => rw [q] at h; cases h; exact .inl (scalEq_ok rx ry q)
  | none =>
    rw [q] at h
    simp only at h
    cases e1 : toD G 40 x with
    | none => rw [e1] at h; exact nomatch h
    | some d =>
      cases e2 : toD G 40 y with
      | none => rw [e1, e2] at h; exact nomatch h
      | some e =>
        rw [e1, e2] at h
        simp only at h
        by_cases hs : SeqAt.shaped d = true ∧ SeqAt.shaped e = true
        · rw [if_pos hs] at h
          cases h
          exact .inr ⟨d, e, toD_ok S _ _ _ _ rx e1, toD_ok S _ _ _ _ ry e2, hs.1, hs.2, rfl⟩
        · rw [if_neg hs] at h; exact nomatch h
theorem o2Eq : Op2 K (rEqA K.K) gEq := by
  intro ρ G H x y v w Q E S rx ry h
  unfold gEq at h
  cases q : eqU G x y with
  | none => rw [q] at h; exact h.elim
  | some b =>
    rw [q] at h
    have e := h.end_ S (.bl b)
    rcases eqU_ok S rx ry q with ⟨h1, h2⟩ | ⟨d, d', h1, h2, h3, h4, h5⟩
    · exact .inl ⟨h1, by rw [h2]; exact e⟩
    · exact .inr ⟨d, d', h1, h2, h3, h4, by rw [h5]; exact e⟩
theorem o2Ne : Op2 K (rNeA K.K) gNe := by
  intro ρ G H x y v w Q E S rx ry h
  unfold gNe at h
  cases q : eqU G x y with
  | none => rw [q] at h; exact h.elim
  | some b =>
    rw [q] at h
    have e := h.end_ S (.bl (!b))
    rcases eqU_ok S rx ry q with ⟨h1, h2⟩ | ⟨d, d', h1, h2, h3, h4, h5⟩
    · exact .inl ⟨h1, by rw [h2]; exact e⟩
    · exact .inr ⟨d, d', h1, h2, h3, h4, by rw [h5]; exact e⟩
/-! is None -/
def gIsN (x y : U) (G : Gp) : R U := match y with
  | .non => .ok (.bl (match x with
    | .non => true
    | _ => false)) G
  | _ => .bad
def gNotN (x y : U) (G : Gp) : R U := match y with
  | .non => .ok (.bl (match x with
    | .non => false
    | _ => true)) G
  | _ => .bad
theorem o2IsN : Op2 K (fun x y H Q => y = .non ∧ Q (.bl (decide (x = .non))) H) gIsN := by
  intro ρ G H x y v w Q E S rx ry h
  cases ry with
  | non => cases rx <;> exact ⟨rfl, h.end_ S (.bl _)⟩
  | _ => exact h.elim
theorem o2NotN : Op2 K (fun x y H Q => y = .non ∧ Q (.bl (!decide (x = .non))) H) gNotN := by
  intro ρ G H x y v w Q E S rx ry h
  cases ry with
  | non => cases rx <;> exact ⟨rfl, h.end_ S (.bl _)⟩
  | _ => exact h.elim
/-! in: flat things in a list or a tuple -/
def flatU : U → Bool
  | .non => true | .bl _ => true | .int _ => true | .str _ => true
  | _ => false
def eqF : U → U → Bool
  | .non, .non => true
  | .bl a, .bl b => a == b
  | .bl a, .int b => (if a then 1 else 0) == b
  | .int a, .bl b => a == (if b then 1 else 0)
  | .int a, .int b => a == b
  | .str a, .str b => a == b
  | _, _ => false
def seqU (G : Gp) (u : U) : Option (List U) := match u with
  | .tup xs => some xs
  | .rl xs => some xs
  | .ref l => match G[l]? with
    | some (.lst xs) => some xs
    | _ => none
  | _ => none
def gIn (neg : Bool) (x y : U) (G : Gp) : R U := match seqU G y with
  | some xs => if flatU x = true ∧ xs.all flatU = true then .ok (.bl (if neg then !(xs.any fun y => eqF y x) else xs.any fun y => eqF y x)) G else .bad
  | none => .bad
theorem seqU_ok (S : Sim K ρ G H) {y : U} {w : V} (ry : RU K ρ H y w) {xs : List U} (h : seqU G y = some xs) : ∃ p vs, w = .ref p ∧ (SqL K.K H p vs ∨ SqT K.K H p vs) ∧ RUs K ρ H xs vs := by
  cases ry with
  | tup hp hr => cases h; exact ⟨_, _, rfl, .inr hp.sq, hr⟩
  | rl hp hr => cases h; exact ⟨_, _, rfl, .inl hp.sq, hr⟩
  | @ref l a ha =>
    unfold seqU at h
    simp only at h
    cases q : G[l]? with
    | none => rw [q] at h; exact nomatch h
    | some o =>
      rw [q] at h
      cases o with
      | lst ys =>
        cases h
        obtain ⟨vs, e1, r1⟩ := S.list ha q
        exact ⟨_, _, rfl, .inl (SqL.of e1), r1⟩
      | _ => exact nomatch h
  | _ => exact nomatch h
theorem flat_rel {x : U} {v : V} (r : RU K ρ H x v) (h : flatU x = true) : flatV v = true := by
  cases r <;> first | rfl | (cases h; done)
theorem flats_rel : ∀ {xs : List U} {vs : List V}, RUs K ρ H xs vs → xs.all flatU = true → vs.all flatV = true
  | _, _, .nil, _ => rfl
  | _, _, .cons h t, e => by
    rw [List.all_cons, Bool.and_eq_true] at e ⊢
    exact ⟨flat_rel h e.1, flats_rel t e.2⟩
theorem eqF_rel {x y : U} {v w : V} (rx : RU K ρ H x v) (ry : RU K ρ H y w) (hx : flatU x = true) (hy : flatU y = true) : eqV v w = eqF x y := by
  cases rx <;> first | (cases hx; done) | (cases ry <;> first | rfl | (cases hy; done))
theorem inV_rel {x : U} {v : V} (rx : RU K ρ H x v) (hx : flatU x = true) : ∀ {xs : List U} {vs : List V}, RUs K ρ H xs vs → xs.all flatU = true → inV v vs = xs.any fun y => eqF y x
  | _, _, .nil, _ => rfl
  | _, _, .cons (x := y) (v := w) (xs := ys) (vs := ws) h t, e => by
    rw [List.all_cons, Bool.and_eq_true] at e
    have ih := inV_rel rx hx t e.2
    unfold inV at ih ⊢
    rw [List.any_cons, List.any_cons, ih, eqF_rel h rx e.1 hx]
theorem o2In {neg : Bool} : Op2 K (rIn K.K neg) (gIn neg) := by
  intro ρ G H x y v w Q E S rx ry h
  unfold gIn at h
  cases q : seqU G y with
  | none => rw [q] at h; exact h.elim
  | some xs =>
    rw [q] at h
    simp only at h
    by_cases hf : flatU x = true ∧ xs.all flatU = true
    · rw [if_pos hf] at h
      obtain ⟨p, vs, rfl, hq, hr⟩ := seqU_ok S ry q
      refine ⟨p, vs, rfl, hq, flat_rel rx hf.1, flats_rel hr hf.2, ?_⟩
      rw [inV_rel rx hf.1 hr hf.2]
      exact h.end_ S (.bl _)
    · rw [if_neg hf] at h; exact h.elim
end
section
variable {X : Cx} {Z : ZZ X.K} {W : WX} {a b c : Expr} {fa fb fc : Ev → Gp → R U} {pos : Pos}
/-- the chain a op b op' c -/
def eChain (g g' : U → U → Gp → R U) (fa fb fc : Ev → Gp → R U) : Ev → Gp → R U := fun env G => (fa env G).bind fun x G1 => (fb env G1).bind fun y G2 => (asB (g x y G2)).bind fun k G3 => if k = true then (fc env G3).bind fun z G4 => g' y z G4 else .ok (.bl false) G3
theorem tChain_of {K : KZ} {W : WX} {r r' : R2} {g g' : U → U → Gp → R U} (o : Op2 K r g) (o' : Op2 K r' g') (σ : St) (H : Hp) (Q : VK) (h : tF K W (eChain g g' fa fb fc) σ H Q) : tChain r r' (tF K W fa) (tF K W fb) (tF K W fc) σ H Q := by
  obtain ⟨ρ, G, env, S, e, h⟩ := h
  refine tG_mono (step S e h) fun v H1 ⟨ρ1, G1, x, p1, s1, S1, e1, r1, h1⟩ => tG_mono (step S1 e1 h1) fun w H2 ⟨ρ2, G2, y, p2, s2, S2, e2, r2, h2⟩ => ?_
  refine o ρ2 G2 H2 x y v w _ (fun c d H' => W c d σ H') S2 (r1.mono p2 s2) r2 ?_
  have h2 : Post K (RU K) ρ2 H2 ((asB (g x y G2)).bind fun k G3 => if k = true then (fc env G3).bind fun z G4 => g' y z G4 else .ok (.bl false) G3) Q fun c d H' => W c d σ H' := h2
  cases q : g x y G2 with
  | bad => rw [q] at h2; exact h2
  | exc c fs G3 => rw [q] at h2; exact h2
  | ok u G3 =>
    rw [q] at h2
    intro v3 ρ3 H3 p3 s3 S3 r3
    cases r3 with
    | bl k =>
      refine ⟨k, rfl, ?_⟩
      have h3 : Post K (RU K) ρ3 H3 (if k = true then (fc env G3).bind fun z G4 => g' y z G4 else .ok (.bl false) G3) Q fun c d H' => W c d σ H' := Post.lift h2 p3 s3
      cases k with
      | false => exact h3.end_ S3 (.bl _)
      | true =>
        rw [if_pos rfl]
        rw [if_pos rfl] at h3
        exact tG_mono (step S3 (e2.mono p3 s3) h3) fun w4 H4 ⟨ρ4, G4, z, p4, s4, S4, e4, r4, h4⟩ => o' _ _ _ _ _ _ _ _ _ S4 ((r2.mono p3 s3).mono p4 s4) r4 h4
    | _ => exact h2.elim
theorem fchain {op op' : CmpOp} {r r' : R2} {g g' : U → U → Gp → R U} (o : Op2 (kz X Z) r g) (o' : Op2 (kz X Z) r' g') (ho : OpR X (compareOp op) r) (ho' : OpR X (compareOp op') r') (ha : FE X Z W a fa) (hb : FE X Z W b fb) (hc : FE X Z W c fc)
    (hm : lastMarks [op, op'] [b, c] = false := by with_unfolding_all rfl) : FE X Z W (.Compare a [op, op'] [b, c] pos) (eChain g g' fa fb fc) := PEimp (pe_chain ho ho' ha hb hc hm) (tChain_of o o')
theorem ftchain {op op' : CmpOp} {r r' : R2} {g g' : U → U → Gp → R U} (o : Op2 (kz X Z) r g) (o' : Op2 (kz X Z) r' g') (ho : OpR X (compareOp op) r) (ho' : OpR X (compareOp op') r') (ha : FE X Z W a fa) (hb : FE X Z W b fb) (hc : FE X Z W c fc)
    (hm : lastMarks [op, op'] [b, c] = false := by with_unfolding_all rfl) : FT X Z W (.Compare a [op, op'] [b, c] pos) (bVal (eChain g g' fa fb fc)) := by
  refine PTimp (pt_chain ho ho' ha hb hc hm) fun σ H Q h => ?_
  exact tChain_of o o' σ H _ (tB_of σ H Q h)
end
section
variable {X : Cx} {Z : ZZ X.K} {W : WX} {a b c : Expr} {fa fb fc : Ev → Gp → R U} {pos : Pos}
abbrev gLt := gCmpI fun i j => decide (i < j)
abbrev gLe := gCmpI fun i j => decide (i ≤ j)
abbrev gGt := gCmpI fun i j => decide (j < i)
abbrev gGe := gCmpI fun i j => decide (j ≤ i)
/-! int comparisons, as tests and as values -/
theorem flt (ha : FE X Z W a fa) (hb : FE X Z W b fb) : FE X Z W (.Compare a [.Lt] [b] pos) (eBin gLt fa fb) := fcmp o2CmpI op_lt ha hb (nomark _)
theorem fle (ha : FE X Z W a fa) (hb : FE X Z W b fb) : FE X Z W (.Compare a [.LtE] [b] pos) (eBin gLe fa fb) := fcmp o2CmpI op_le ha hb (nomark _)
theorem fgt (ha : FE X Z W a fa) (hb : FE X Z W b fb) : FE X Z W (.Compare a [.Gt] [b] pos) (eBin gGt fa fb) := fcmp o2CmpI op_gt ha hb (nomark _)
theorem fge (ha : FE X Z W a fa) (hb : FE X Z W b fb) : FE X Z W (.Compare a [.GtE] [b] pos) (eBin gGe fa fb) := fcmp o2CmpI op_ge ha hb (nomark _)
theorem feq (hu : X.A.units + 64 < cLine) (ha : FE X Z W a fa) (hb : FE X Z W b fb) : FE X Z W (.Compare a [.Eq] [b] pos) (eBin gEq fa fb) := fcmp o2Eq (orEq hu) ha hb (nomark _)
theorem fne (hu : X.A.units + 64 < cLine) (ha : FE X Z W a fa) (hb : FE X Z W b fb) : FE X Z W (.Compare a [.NotEq] [b] pos) (eBin gNe fa fb) := fcmp o2Ne (orNe hu) ha hb (nomark _)
theorem fisN (ha : FE X Z W a fa) (hb : FE X Z W b fb) : FE X Z W (.Compare a [.Is] [b] pos) (eBin gIsN fa fb) := fcmp o2IsN op_isN ha hb (nomark _)
theorem fnotN (ha : FE X Z W a fa) (hb : FE X Z W b fb) : FE X Z W (.Compare a [.IsNot] [b] pos) (eBin gNotN fa fb) := fcmp o2NotN op_notN ha hb (nomark _)
theorem fin_ (ha : FE X Z W a fa) (hb : FE X Z W b fb) (hm : behindInMarks .In b = false := by rfl) : FE X Z W (.Compare a [.In] [b] pos) (eBin (gIn false) fa fb) := fcmp o2In op_in_seq ha hb hm
theorem fnin (ha : FE X Z W a fa) (hb : FE X Z W b fb) (hm : behindInMarks .NotIn b = false := by rfl) : FE X Z W (.Compare a [.NotIn] [b] pos) (eBin (gIn true) fa fb) := fcmp o2In op_notIn_seq ha hb hm
theorem tlt (ha : FE X Z W a fa) (hb : FE X Z W b fb) : FT X Z W (.Compare a [.Lt] [b] pos) (bVal (eBin gLt fa fb)) := ft_cmp o2CmpI op_lt ha hb (nomark _)
theorem tle (ha : FE X Z W a fa) (hb : FE X Z W b fb) : FT X Z W (.Compare a [.LtE] [b] pos) (bVal (eBin gLe fa fb)) := ft_cmp o2CmpI op_le ha hb (nomark _)
theorem tgt (ha : FE X Z W a fa) (hb : FE X Z W b fb) : FT X Z W (.Compare a [.Gt] [b] pos) (bVal (eBin gGt fa fb)) := ft_cmp o2CmpI op_gt ha hb (nomark _)
theorem tge (ha : FE X Z W a fa) (hb : FE X Z W b fb) : FT X Z W (.Compare a [.GtE] [b] pos) (bVal (eBin gGe fa fb)) := ft_cmp o2CmpI op_ge ha hb (nomark _)
theorem teq (hu : X.A.units + 64 < cLine) (ha : FE X Z W a fa) (hb : FE X Z W b fb) : FT X Z W (.Compare a [.Eq] [b] pos) (bVal (eBin gEq fa fb)) := ft_cmp o2Eq (orEq hu) ha hb (nomark _)
theorem tne (hu : X.A.units + 64 < cLine) (ha : FE X Z W a fa) (hb : FE X Z W b fb) : FT X Z W (.Compare a [.NotEq] [b] pos) (bVal (eBin gNe fa fb)) := ft_cmp o2Ne (orNe hu) ha hb (nomark _)
theorem tisN (ha : FE X Z W a fa) (hb : FE X Z W b fb) : FT X Z W (.Compare a [.Is] [b] pos) (bVal (eBin gIsN fa fb)) := ft_cmp o2IsN op_isN ha hb (nomark _)
theorem tnotN (ha : FE X Z W a fa) (hb : FE X Z W b fb) : FT X Z W (.Compare a [.IsNot] [b] pos) (bVal (eBin gNotN fa fb)) := ft_cmp o2NotN op_notN ha hb (nomark _)
theorem tin (ha : FE X Z W a fa) (hb : FE X Z W b fb) (hm : behindInMarks .In b = false := by rfl) : FT X Z W (.Compare a [.In] [b] pos) (bVal (eBin (gIn false) fa fb)) := ft_cmp o2In op_in_seq ha hb hm
theorem tnin (ha : FE X Z W a fa) (hb : FE X Z W b fb) (hm : behindInMarks .NotIn b = false := by rfl) : FT X Z W (.Compare a [.NotIn] [b] pos) (bVal (eBin (gIn true) fa fb)) := ft_cmp o2In op_notIn_seq ha hb hm
/-- a <= b <= c and its like -/
theorem fcleLe (ha : FE X Z W a fa) (hb : FE X Z W b fb) (hc : FE X Z W c fc) (hm : lastMarks [.LtE, .LtE] [b, c] = false := by with_unfolding_all rfl) : FE X Z W (.Compare a [.LtE, .LtE] [b, c] pos) (eChain gLe gLe fa fb fc) := fchain o2CmpI o2CmpI op_le op_le ha hb hc hm
theorem fcleLt (ha : FE X Z W a fa) (hb : FE X Z W b fb) (hc : FE X Z W c fc) (hm : lastMarks [.LtE, .Lt] [b, c] = false := by with_unfolding_all rfl) : FE X Z W (.Compare a [.LtE, .Lt] [b, c] pos) (eChain gLe gLt fa fb fc) := fchain o2CmpI o2CmpI op_le op_lt ha hb hc hm
theorem fcltLe (ha : FE X Z W a fa) (hb : FE X Z W b fb) (hc : FE X Z W c fc) (hm : lastMarks [.Lt, .LtE] [b, c] = false := by with_unfolding_all rfl) : FE X Z W (.Compare a [.Lt, .LtE] [b, c] pos) (eChain gLt gLe fa fb fc) := fchain o2CmpI o2CmpI op_lt op_le ha hb hc hm
theorem fcltLt (ha : FE X Z W a fa) (hb : FE X Z W b fb) (hc : FE X Z W c fc) (hm : lastMarks [.Lt, .Lt] [b, c] = false := by with_unfolding_all rfl) : FE X Z W (.Compare a [.Lt, .Lt] [b, c] pos) (eChain gLt gLt fa fb fc) := fchain o2CmpI o2CmpI op_lt op_lt ha hb hc hm
theorem tcleLe (ha : FE X Z W a fa) (hb : FE X Z W b fb) (hc : FE X Z W c fc) (hm : lastMarks [.LtE, .LtE] [b, c] = false := by with_unfolding_all rfl) : FT X Z W (.Compare a [.LtE, .LtE] [b, c] pos) (bVal (eChain gLe gLe fa fb fc)) := ftchain o2CmpI o2CmpI op_le op_le ha hb hc hm
theorem tcleLt (ha : FE X Z W a fa) (hb : FE X Z W b fb) (hc : FE X Z W c fc) (hm : lastMarks [.LtE, .Lt] [b, c] = false := by with_unfolding_all rfl) : FT X Z W (.Compare a [.LtE, .Lt] [b, c] pos) (bVal (eChain gLe gLt fa fb fc)) := ftchain o2CmpI o2CmpI op_le op_lt ha hb hc hm
theorem tcltLe (ha : FE X Z W a fa) (hb : FE X Z W b fb) (hc : FE X Z W c fc) (hm : lastMarks [.Lt, .LtE] [b, c] = false := by with_unfolding_all rfl) : FT X Z W (.Compare a [.Lt, .LtE] [b, c] pos) (bVal (eChain gLt gLe fa fb fc)) := ftchain o2CmpI o2CmpI op_lt op_le ha hb hc hm
theorem tcltLt (ha : FE X Z W a fa) (hb : FE X Z W b fb) (hc : FE X Z W c fc) (hm : lastMarks [.Lt, .Lt] [b, c] = false := by with_unfolding_all rfl) : FT X Z W (.Compare a [.Lt, .Lt] [b, c] pos) (bVal (eChain gLt gLt fa fb fc)) := ftchain o2CmpI o2CmpI op_lt op_lt ha hb hc hm
end
end FL

set_option Elab.async false
set_option linter.all false
set_option maxRecDepth 100000
set_option maxHeartbeats 4000000
set_option autoImplicit false
namespace FL
open PySem PySem.Spec L2

/-! ### items, slices -/
def gIdx (x y : U) (G : Gp) : R U := match y with
  | .int i => match x with
    | .str z => if z.length ≤ 16777216 then (match atI z.cps.toList i with
      | some c => .ok (.str ⟨#[c]⟩) G
      | none => .bad) else .bad
    | _ => match seqU G x with
      | some xs => match atI xs i with
        | some u => .ok u G
        | none => .bad
      | none => .bad
  | _ => .bad
section
variable {K : KZ} {ρ : List Addr} {G : Gp} {H : Hp}
theorem atI_rel {xs : List U} {vs : List V} (r : RUs K ρ H xs vs) {i : Int} {u : U} (h : atI xs i = some u) : ∃ v, atI vs i = some v ∧ RU K ρ H u v := by
  unfold atI at h ⊢
  rw [← r.len]
  cases q : ixN xs.length i with
  | none => rw [q] at h; exact nomatch h
  | some j =>
    rw [q] at h
    exact r.getU h
theorem o2Idx : Op2 K (rIx K.K) gIdx := by
  intro ρ G H x y v w Q E S rx ry h
  cases ry with
  | int i =>
    have sq : ∀ xs, seqU G x = some xs → gIdx x (.int i) G = (match atI xs i with
        | some u => .ok u G
        | none => .bad) → rIx K.K v (.int i) H Q := by
      intro xs hs hg
      rw [hg] at h
      obtain ⟨p, vs, rfl, hq, hr⟩ := seqU_ok S rx hs
      cases q : atI xs i with
      | none => rw [q] at h; exact h.elim
      | some u =>
        rw [q] at h
        obtain ⟨z, e, rz⟩ := atI_rel hr q
        have f := h.end_ S rz
        rcases hq with hq | hq
        · exact .inl ⟨p, vs, i, z, rfl, rfl, hq, e, f⟩
        · exact .inr (.inl ⟨p, vs, i, z, rfl, rfl, hq, e, f⟩)
    cases rx with
    | str z =>
      unfold gIdx at h
      simp only at h
      by_cases hl : z.length ≤ 16777216
      · rw [if_pos hl] at h
        cases q : atI z.cps.toList i with
        | none => rw [q] at h; exact h.elim
        | some c => rw [q] at h; exact .inr (.inr ⟨z, i, c, rfl, rfl, by rw [line_eq]; exact hl, q, h.end_ S (.str _)⟩)
      · rw [if_neg hl] at h; exact h.elim
    | @tup xs vs a ha hr => exact sq xs rfl rfl
    | @rl xs vs a ha hr => exact sq xs rfl rfl
    | @ref l a ha =>
      cases q : seqU G (.ref l) with
      | none => unfold gIdx at h; simp only [q] at h; exact h.elim
      | some xs => exact sq xs q (by unfold gIdx; simp only [q])
    | _ => exact h.elim
  | _ => cases x <;> exact h.elim
def cutU {α : Type} (xs : List α) (lo hi : Option Int) : List α := (xs.drop (HT.sIx xs.length 0 lo)).take (HT.sIx xs.length xs.length hi - HT.sIx xs.length 0 lo)
theorem cutU_rel {xs : List U} {vs : List V} (r : RUs K ρ H xs vs) (lo hi : Option Int) : RUs K ρ H (cutU xs lo hi) (cutV vs lo hi) := by
  unfold cutU cutV
  rw [r.len]
  exact (r.drop _).take _
def gSl (x : U) (lo hi : Option Int) (G : Gp) : R U := match x with
  | .str z => if z.length ≤ 16777216 then .ok (.str (cutS z lo hi)) G else .bad
  | .tup xs => .ok (.tup (cutU xs lo hi)) G
  | .rl xs => .ok (.ref G.length) (G ++ [.lst (cutU xs lo hi)])
  | .ref l => match G[l]? with
    | some (.lst xs) => .ok (.ref G.length) (G ++ [.lst (cutU xs lo hi)])
    | _ => .bad
  | _ => .bad
def rSlAll (K : PySem.W.Frag) : V → Option Int → Option Int → Hp → VK → Prop := fun x lo hi H Q => (rSlL K x lo hi H Q ∨ rSlA K x lo hi H Q) ∨ rSlS x lo hi H Q
theorem slAll {X : Cx} : SlR X (rSlAll X.K) := (sl_list.or sl_tupA).or sl_str
theorem oSl {x : U} {v : V} {lo hi : Option Int} {Q : VK} {E : XK} (S : Sim K ρ G H) (rx : RU K ρ H x v) (h : Post K (RU K) ρ H (gSl x lo hi G) Q E) : rSlAll K.K v lo hi H Q := by
  cases rx with
  | str z =>
    unfold gSl at h
    simp only at h
    by_cases hl : z.length ≤ 16777216
    · rw [if_pos hl] at h
      exact .inr ⟨z, rfl, by rw [line_eq]; exact hl, h.end_ S (.str _)⟩
    · rw [if_neg hl] at h; exact h.elim
  | @tup xs vs a ha hr =>
    refine .inl (.inr ⟨a, vs, rfl, ha.sq, fun z => ?_, fun _ => newTup S (cutU_rel hr lo hi) h⟩)
    have e : cutU xs lo hi = xs := by
      unfold cutU
      rw [hr.len, z.1, z.2]
      rw [List.drop_zero, Nat.sub_zero, ← hr.len, List.take_length]
    have h : Post K (RU K) ρ H (.ok (.tup (cutU xs lo hi)) G) Q E := h
    rw [e] at h
    exact h.end_ S (.tup ha hr)
  | @rl xs vs a ha hr => exact .inl (.inl ⟨a, vs, rfl, ha.sq, newLst S (cutU_rel hr lo hi) h⟩)
  | @ref l a ha =>
    unfold gSl at h
    simp only at h
    cases q : G[l]? with
    | none => rw [q] at h; exact h.elim
    | some o =>
      rw [q] at h
      cases o with
      | lst xs =>
        obtain ⟨vs, e1, r1⟩ := S.list ha q
        exact .inl (.inl ⟨a, vs, rfl, SqL.of e1, newLst S (cutU_rel r1 lo hi) h⟩)
      | _ => exact h.elim
  | _ => exact h.elim
end
/-! parts of a slice -/
def pNo : Ev → Gp → R (Option Int) := fun _ G => .ok none G
def pInt (f : Ev → Gp → R U) : Ev → Gp → R (Option Int) := fun env G => (f env G).bind fun u G1 => match u with
  | .int i => .ok (some i) G1
  | _ => .bad
def eSl (f : Ev → Gp → R U) (lo hi : Ev → Gp → R (Option Int)) : Ev → Gp → R U := fun env G => (f env G).bind fun x G1 => (lo env G1).bind fun l G2 => (hi env G2).bind fun h G3 => gSl x l h G3
abbrev FO (X : Cx) (Z : ZZ X.K) (W : WX) (e : Option Expr) (f : Ev → Gp → R (Option Int)) : Prop := PO X e (tG (kz X Z) (fun _ _ a b => a = b) W f)
theorem POimp {X : Cx} {e : Option Expr} {t t' : TO} (h : PO X e t) (i : ∀ σ H Q, t' σ H Q → t σ H Q) : PO X e t' := ⟨fun pins s σ H Q I q => h.run pins s σ H Q I (i σ H Q q)⟩
section
variable {X : Cx} {Z : ZZ X.K} {W : WX} {a b e : Expr} {fa fb f : Ev → Gp → R U} {lo hi : Ev → Gp → R (Option Int)} {l h : Option Expr} {pos p2 : Pos}
theorem fidx (ha : FE X Z W a fa) (hb : FE X Z W b fb) (hs : PlainIx b := by exact fun _ _ => rfl) : FE X Z W (.Subscript a b pos) (eBin gIdx fa fb) := PEimp (pe_ix ix_seq ha hb hs) (tOp_of o2Idx)
theorem fono : FO X Z W none pNo := POimp po_none fun σ H Q ⟨ρ, G, env, S, e, h⟩ => Post.end_ (rel := fun _ _ (a b : Option Int) => a = b) h S rfl
theorem foint (he : FE X Z W e f) : FO X Z W (some e) (pInt f) := by
  refine POimp (po_some he) fun σ H Q ⟨ρ, G, env, S, e, h⟩ => ?_
  refine tG_mono (step (rel' := fun _ _ (a b : Option Int) => a = b) S e h) fun v H1 ⟨ρ1, G1, x, p1, s1, S1, e1, r1, h1⟩ => ?_
  cases r1 with
  | int i => exact ⟨i, rfl, h1.end_ S1 rfl⟩
  | _ => exact h1.elim
theorem fslice (ha : FE X Z W a fa) (hl : FO X Z W l lo) (hh : FO X Z W h hi) : FE X Z W (.Subscript a (.Slice l h none p2) pos) (eSl fa lo hi) := by
  refine PEimp (pe_slice slAll ha hl hh) fun σ H Q ⟨ρ, G, env, S, e, h⟩ => ?_
  refine tG_mono (step S e h) fun v H1 ⟨ρ1, G1, x, p1, s1, S1, e1, r1, h1⟩ => ?_
  refine tG_mono (step (rel := fun _ _ (a b : Option Int) => a = b) S1 e1 h1) fun w H2 ⟨ρ2, G2, y, p2, s2, S2, e2, r2, h2⟩ => ?_
  subst r2
  refine tG_mono (step (rel := fun _ _ (a b : Option Int) => a = b) S2 e2 h2) fun w3 H3 ⟨ρ3, G3, z, p3, s3, S3, e3, r3, h3⟩ => ?_
  subst r3
  exact oSl S3 ((r1.mono p2 s2).mono p3 s3) h3
end

/-! ### stores into lists -/
def R.bindN {α β : Type} (r : R α) (k : α → Gp → R β) : R β := match r with
  | .ok a G => k a G
  | _ => .bad
def setU (o i v : U) (G : Gp) : R Unit := match o, i with
  | .ref l, .int k => match G[l]? with
    | some (.lst xs) => match ixN xs.length k with
      | some j => .ok () (G.set l (.lst (xs.set j v)))
      | none => .bad
    | _ => .bad
  | _, _ => .bad
def gSubE (fo fi : Ev → Gp → R U) : U → Ev → Gp → R Ev := fun v env G => (fo env G).bindN fun o G1 => (fi env G1).bindN fun i G2 => (setU o i v G2).bindN fun _ G3 => .ok env G3
section
variable {K : KZ} {ρ : List Addr} {G : Gp} {H : Hp}
/-- the list at l changes -/
theorem Sim.setList (S : Sim K ρ G H) {l : Nat} {a : Addr} {xs ys : List U} {vs ws : List V} (ha : ρ[l]? = some a) (e : H a = some (.lst vs)) (r : RUs K ρ H ys ws) : Sim K ρ (G.set l (.lst ys)) (upd H a (.lst ws)) ∧ Stb K H (upd H a (.lst ws)) := by
  have st : Stb K H (upd H a (.lst ws)) := stb_write e (fun _ z => nomatch z) (fun _ _ z => nomatch z) fun _ z => nomatch z
  exact ⟨S.write ha e (fun _ z => nomatch z) (fun _ _ z => nomatch z) (fun _ z => nomatch z) (show RUs K ρ _ ys ws from r.mono pre_refl st), st⟩
theorem ixN_rel {xs : List U} {vs : List V} (r : RUs K ρ H xs vs) (k : Int) : ixN vs.length k = ixN xs.length k := by rw [r.len]
theorem setU_ok {o i v : U} {ov iv vv : V} (S : Sim K ρ G H) (ro : RU K ρ H o ov) (ri : RU K ρ H i iv) (rv : RU K ρ H v vv) {Q : Hp → Prop} {G' : Gp} (h : setU o i v G = .ok () G')
    (q : ∀ H', Stb K H H' → Sim K ρ G' H' → Q H') : rSetL ov iv vv H Q := by
  unfold setU at h
  cases ro with
  | @ref l a ha =>
    cases ri with
    | int k =>
      simp only at h
      cases e1 : G[l]? with
      | none => rw [e1] at h; exact nomatch h
      | some ob =>
        rw [e1] at h
        cases ob with
        | lst xs =>
          simp only at h
          cases e2 : ixN xs.length k with
          | none => rw [e2] at h; exact nomatch h
          | some j =>
            rw [e2] at h
            cases h
            obtain ⟨vs, e3, r3⟩ := S.list ha e1
            obtain ⟨S', st⟩ := S.setList (xs := xs) ha e3 (r3.set rv j)
            exact ⟨a, vs, k, j, rfl, rfl, e3, by rw [ixN_rel r3]; exact e2, q _ st S'⟩
        | _ => exact nomatch h
    | _ => exact nomatch h
  | _ => cases ri <;> exact nomatch h
end
section
variable {X : Cx} {Z : ZZ X.K} {W : WX} {o i e : Expr} {fo fi f : Ev → Gp → R U} {pos : Pos}
theorem bindN_ok {α β : Type} {r : R α} {k : α → Gp → R β} {b : β} {G' : Gp} (h : r.bindN k = .ok b G') : ∃ a G1, r = .ok a G1 ∧ k a G1 = .ok b G' := by
  cases r with
  | ok a G1 => exact ⟨a, G1, rfl, h⟩
  | _ => exact nomatch h
theorem bindN_nx {α β : Type} {r : R α} {k : α → Gp → R β} {c : Str} {fs : List (Str × U)} {G' : Gp} (h : r.bindN k = .exc c fs G') : ∃ a G1, r = .ok a G1 ∧ k a G1 = .exc c fs G' := by
  cases r with
  | ok a G1 => exact ⟨a, G1, rfl, h⟩
  | _ => exact nomatch h
theorem nxSub {fo fi : Ev → Gp → R U} : NoX (gSubE fo fi) := fun u env G c fs G' h => by
  obtain ⟨a, G1, _, h⟩ := bindN_nx h
  obtain ⟨b, G2, _, h⟩ := bindN_nx h
  obtain ⟨d, G3, _, h⟩ := bindN_nx h
  exact nomatch h
/-- a reading of an expression whose value is known -/
theorem tF_ok {K : KZ} {W : WX} {f : Ev → Gp → R U} {σ : St} {H : Hp} {ρ : List Addr} {G G1 : Gp} {env : Ev} {u : U} {Q : VK} (S : Sim K ρ G H) (e : REq K ρ H env σ) (hf : f env G = .ok u G1)
    (q : ∀ v ρ1 H1, ρ <+: ρ1 → Stb K H H1 → Sim K ρ1 G1 H1 → RU K ρ1 H1 u v → Q v H1) : tF K W f σ H Q := ⟨ρ, G, env, S, e, by rw [hf]; exact q⟩
theorem fgsub (ho : FE X Z W o fo) (hi : FE X Z W i fi) (ha : ∀ v, assign (.Subscript o i pos) X.env v = (do
      let ov ← holding [v] (eval o X.env)
      let iv ← holding [v, ov] (eval i X.env)
      standAt pos
      holding [v, ov, iv] (setItem ov iv v)
      release [v, ov, iv] []) := by intro _; rfl) : FG X Z (.Subscript o i pos) (gSubE fo fi) := by
  refine PGimp (pg_sub ho hi set_list ha) fun v σ H Q ⟨ρ, G, env, u, S, e, r, h⟩ => ?_
  cases q : gSubE fo fi u env G with
  | bad => rw [q] at h; exact h.elim
  | exc c fs G' => exact absurd q (nxSub _ _ _ _ _ _)
  | ok env' G' =>
    rw [q] at h
    obtain ⟨a, G1, q1, q⟩ := bindN_ok q
    obtain ⟨b, G2, q2, q⟩ := bindN_ok q
    obtain ⟨d, G3, q3, q⟩ := bindN_ok q
    cases q
    refine tF_ok S e q1 fun ov ρ1 H1 p1 s1 S1 r1 => tF_ok S1 (e.mono p1 s1) q2 fun iv ρ2 H2 p2 s2 S2 r2 => ?_
    exact setU_ok S2 (r1.mono p2 s2) r2 ((r.mono p1 s1).mono p2 s2) q3 fun H3 s3 S3 => h σ ρ2 H3 (p1.trans p2) ((s1.trans s2).trans s3) S3 (((e.mono p1 s1).mono p2 s2).mono pre_refl s3)
end

/-! ### name op= e; o[i] op= e -/
def sAug (i : Nat) (g : U → U → Gp → R U) (f : Ev → Gp → R U) : Ev → Gp → SR := fun env G => (eVar i env G).andThen env fun x G0 => (f env G0).andThen env fun y G1 => (g x y G1).andThen env fun z G2 => .nx (env.set i (some z)) G2
theorem opS {K : KZ} {W : WX} {r : R2} {g : U → U → Gp → R U} (o : Op2 K r g) {ρ : List Addr} {G : Gp} {H : Hp} {x y : U} {v w : V} {env : Ev} {σ : St} {D : Ends} {k : U → Gp → SR} (S : Sim K ρ G H) (e : REq K ρ H env σ) (rx : RU K ρ H x v) (ry : RU K ρ H y w)
    (h : PostS K ρ H ((g x y G).andThen env k) D W) : r v w H fun z H1 => ∃ ρ1 G1 u, ρ <+: ρ1 ∧ Stb K H H1 ∧ Sim K ρ1 G1 H1 ∧ REq K ρ1 H1 env σ ∧ RU K ρ1 H1 u z ∧ PostS K ρ1 H1 (k u G1) D W := by
  refine o ρ G H x y v w _ (fun c d H' => W c d σ H') S rx ry ?_
  cases q : g x y G with
  | ok a G1 => rw [q] at h; exact fun b ρ1 H1 p s S1 r => ⟨ρ1, G1, a, p, s, S1, e.mono p s, r, h.lift p s⟩
  | exc c fs G1 => rw [q] at h; exact fun d vfs ρ' H' p s S1 q1 q2 => h σ d vfs ρ' H' p s S1 (e.mono p s) q1 q2
  | bad => rw [q] at h; exact h
section
variable {X : Cx} {Z : ZZ X.K} {W : WX} {o i e : Expr} {fo fi f : Ev → Gp → R U} {pos : Pos}
theorem fsaug {n : Nat} {x : Str} {op : Operator} {r : R2} {g : U → U → Gp → R U} {pos' : Pos} (og : Op2 (kz X Z) r g) (ho : OpR X (inplaceOp op) r) (hN : X.N.Nodup) (hi : X.N[n]? = some x) (hx : Loc X.env.scope x) (he : FE X Z W e f)
    (hf : X.fn x = true ∨ X.env.scope.names.lookup x = some .local := by first | exact .inl rfl | exact .inr rfl | assumption) : FS X Z W (.AugAssign (.Name x pos') op e pos) (sAug n g f) := by
  refine PSimp (ps_aug (ti := r) hN hi hx he (fun pins s σ H x y v u Q I rx ry h => ho pins s σ H x y v u Q I rx ry h) hf) fun D σ H ⟨ρ, G, env, S, e, h⟩ => ?_
  have h : PostS (kz X Z) ρ H ((eVar n env G).andThen env fun x G0 => (f env G0).andThen env fun y G1 => (g x y G1).andThen env fun z G2 => .nx (env.set n (some z)) G2) D W := h
  cases q : env[n]? with
  | none => simp only [eVar, q] at h; exact h.elim
  | some ox =>
    cases ox with
    | none => simp only [eVar, q] at h; exact h.elim
    | some u =>
      simp only [eVar, q] at h
      obtain ⟨v, e1, rv⟩ := e.get q
      refine ⟨v, e1, ?_⟩
      refine tG_mono (stepS S e h) fun w H1 ⟨ρ1, G1, y, p1, s1, S1, ee1, r1, h1⟩ => ?_
      have z := opS og S1 ee1 (rv.mono p1 s1) r1 h1
      refine og ρ1 G1 H1 u y v w _ (fun c d H' => W c d σ H') S1 (rv.mono p1 s1) r1 ?_
      cases q2 : g u y G1 with
      | ok a G2 => rw [q2] at h1; exact fun b ρ2 H2 p2 s2 S2 r2 => h1 _ ρ2 H2 p2 s2 S2 ((ee1.mono p2 s2).set r2 n)
      | exc c fs G2 => rw [q2] at h1; exact fun d vfs ρ' H' p s S1 z1 z2 => h1 σ d vfs ρ' H' p s S1 (ee1.mono p s) z1 z2
      | bad => rw [q2] at h1; exact h1
theorem fsaugAdd {n : Nat} {x : Str} {pos' : Pos} (hN : X.N.Nodup) (hi : X.N[n]? = some x) (hx : Loc X.env.scope x) (he : FE X Z W e f)
    (hf : X.fn x = true ∨ X.env.scope.names.lookup x = some .local := by first | exact .inl rfl | exact .inr rfl | assumption) : FS X Z W (.AugAssign (.Name x pos') .Add e pos) (sAug n (fun x y G => match x, y with
      | .int i, .int j => .ok (.int (i + j)) G
      | _, _ => .bad) f) := fsaug (r := rI0 fun i j => .int (i + j)) (fun ρ G H x y v w Q E S rx ry h => by
    cases rx with
    | int i =>
      cases ry with
      | int j => exact ⟨i, j, rfl, rfl, h.end_ S (.int _)⟩
      | _ => exact h.elim
    | _ => cases ry <;> exact h.elim) iop_add hN hi hx he hf
theorem fsaugSub {n : Nat} {x : Str} {pos' : Pos} (hN : X.N.Nodup) (hi : X.N[n]? = some x) (hx : Loc X.env.scope x) (he : FE X Z W e f)
    (hf : X.fn x = true ∨ X.env.scope.names.lookup x = some .local := by first | exact .inl rfl | exact .inr rfl | assumption) : FS X Z W (.AugAssign (.Name x pos') .Sub e pos) (sAug n gSub f) := fsaug o2Sub iop_sub hN hi hx he hf
end

/-! ### calls of built-ins by values -/
def OpN (K : KZ) (r : List V → Hp → VK → Prop) (g : List U → Gp → R U) : Prop := ∀ ρ G H us vs Q E, Sim K ρ G H → RUs K ρ H us vs → Post K (RU K) ρ H (g us G) Q E → r vs H Q
def eCall (g : List U → Gp → R U) (fa : Ev → Gp → R (List U)) : Ev → Gp → R U := fun env G => (fa env G).bind g
section
variable {X : Cx} {Z : ZZ X.K} {W : WX} {x : Str} {p pos : Pos} {e : Expr} {es : List Expr} {fa : Ev → Gp → R (List U)} {g : List U → Gp → R U} {r : List V → Hp → VK → Prop} {id T : String}
theorem tCB_of {K : KZ} {W : WX} (o : OpN K r g) (σ : St) (H : Hp) (Q : VK) (h : tF K W (eCall g fa) σ H Q) : tCB r (taF K W fa) σ H Q := by
  obtain ⟨ρ, G, env, S, e, h⟩ := h
  exact tG_mono (step (rel := RUs K) S e h) fun v H1 ⟨ρ1, G1, x, p1, s1, S1, e1, r1, h1⟩ => o _ _ _ _ _ _ _ S1 r1 h1
theorem fcallB (o : OpN (kz X Z) r g) (hc : CallR X (.builtin id) r) (hg : Gl X x) (hm : X.mg x = none) (hv : bootBuiltins x = some (.builtin id)) (ha : FA X Z W (e :: es) fa) (hn : x ≠ "__name__" := by decide) (hdb : (x == ("__debug__" : Str)) = false := by decide)
    (he : starEach (e :: es) X.env = (false, eval e X.env) :: starEach es X.env := by rfl) (hpl : (backTo pos (starEach es X.env)).any (·.1) = false := by rfl) : FE X Z W (.Call (.Name x p) (e :: es) [] pos) (eCall g fa) := PEimp (pe_callB hc hg hm hv ha hn hdb he hpl) (tCB_of o)
theorem fcallTy (o : OpN (kz X Z) r g) (hc : CallR X (.type T) r) (hg : Gl X x) (hm : X.mg x = none) (hv : bootBuiltins x = some (.type T)) (ha : FA X Z W (e :: es) fa) (hn : x ≠ "__name__" := by decide) (hdb : (x == ("__debug__" : Str)) = false := by decide)
    (he : starEach (e :: es) X.env = (false, eval e X.env) :: starEach es X.env := by rfl) (hpl : (backTo pos (starEach es X.env)).any (·.1) = false := by rfl) : FE X Z W (.Call (.Name x p) (e :: es) [] pos) (eCall g fa) := PEimp (pe_callTy hc hg hm hv ha hn hdb he hpl) (tCB_of o)
end
/-! len -/
def bLen (us : List U) (G : Gp) : R U := match us with
  | [.str z] => if z.length ≤ 16777216 then .ok (.int z.length) G else .bad
  | [u] => match seqU G u with
    | some xs => .ok (.int xs.length) G
    | none => .bad
  | _ => .bad
def rLenA (K : PySem.W.Frag) : List V → Hp → VK → Prop := fun xs H Q => ∃ x n, xs = [x] ∧ LenV K x H n ∧ Q (.int n) H
theorem oLen {K : KZ} : OpN K (rLenA K.K) bLen := by
  intro ρ G H us vs Q E S r h
  cases r with
  | nil => exact h.elim
  | @cons x v xs vs hx ht =>
    cases ht with
    | cons _ _ => cases x <;> exact h.elim
    | nil =>
      have sq : ∀ ys, seqU G x = some ys → bLen [x] G = .ok (.int ys.length) G → rLenA K.K [v] H Q := by
        intro ys hs hg
        rw [hg] at h
        obtain ⟨p, ws, rfl, hq, hr⟩ := seqU_ok S hx hs
        refine ⟨.ref p, ws.length, rfl, ?_, by rw [← hr.len]; exact h.end_ S (.int _)⟩
        rcases hq with hq | hq
        · exact .inl ⟨ws, hq, rfl⟩
        · exact .inr ⟨ws, hq, rfl⟩
      cases hx with
      | str z =>
        unfold bLen at h
        simp only at h
        by_cases hl : z.length ≤ 16777216
        · rw [if_pos hl] at h
          exact ⟨.str z, z.length, rfl, ⟨by rw [line_eq]; exact hl, rfl⟩, h.end_ S (.int _)⟩
        · rw [if_neg hl] at h; exact h.elim
      | @tup ys _ _ _ _ => exact sq ys rfl rfl
      | @rl ys _ _ _ _ => exact sq ys rfl rfl
      | @ref l a ha =>
        cases q : seqU G (.ref l) with
        | none => unfold bLen at h; simp only [q] at h; exact h.elim
        | some ys => exact sq ys q (by unfold bLen; simp only [q])
      | _ => exact h.elim
/-! int, abs, max, min of two ints; tuple, list -/
def bInt (us : List U) (G : Gp) : R U := match us with
  | [.int i] => .ok (.int i) G
  | [.bl k] => .ok (.int (if k = true then 1 else 0)) G
  | _ => .bad
def bAbs (us : List U) (G : Gp) : R U := match us with
  | [.int i] => .ok (.int (if i < 0 then -i else i)) G
  | _ => .bad
def bMax2 (us : List U) (G : Gp) : R U := match us with
  | [.int i, .int j] => .ok (.int (if j > i then j else i)) G
  | _ => .bad
def bMin2 (us : List U) (G : Gp) : R U := match us with
  | [.int i, .int j] => .ok (.int (if j < i then j else i)) G
  | _ => .bad
def bTuple (us : List U) (G : Gp) : R U := match us with
  | [u] => match seqU G u with
    | some xs => .ok (.tup xs) G
    | none => .bad
  | _ => .bad
def bList (us : List U) (G : Gp) : R U := match us with
  | [u] => match seqU G u with
    | some xs => .ok (.ref G.length) (G ++ [.lst xs])
    | none => .bad
  | _ => .bad
section
variable {K : KZ}
theorem oInt : OpN K (fun xs H Q => (∃ i, xs = [.int i] ∧ Q (.int i) H) ∨ ∃ k, xs = [.bl k] ∧ Q (.int (if k then 1 else 0)) H) bInt := by
  intro ρ G H us vs Q E S r h
  unfold bInt at h
  split at h
  · obtain ⟨v, rfl, rv⟩ := r.one
    cases rv
    exact .inl ⟨_, rfl, h.end_ S (.int _)⟩
  · obtain ⟨v, rfl, rv⟩ := r.one
    cases rv
    exact .inr ⟨_, rfl, h.end_ S (.int _)⟩
  · exact h.elim
theorem oAbs : OpN K (fun xs H Q => ∃ i, xs = [.int i] ∧ Q (.int (if i < 0 then -i else i)) H) bAbs := by
  intro ρ G H us vs Q E S r h
  unfold bAbs at h
  split at h
  · obtain ⟨v, rfl, rv⟩ := r.one
    cases rv
    exact ⟨_, rfl, h.end_ S (.int _)⟩
  · exact h.elim
theorem oMax2 : OpN K (fun xs H Q => ∃ i j, xs = [.int i, .int j] ∧ Q (.int (if j > i then j else i)) H) bMax2 := by
  intro ρ G H us vs Q E S r h
  unfold bMax2 at h
  split at h
  · obtain ⟨v, w, rfl, rv, rw'⟩ := r.two
    cases rv
    cases rw'
    exact ⟨_, _, rfl, h.end_ S (.int _)⟩
  · exact h.elim
theorem oMin2 : OpN K (fun xs H Q => ∃ i j, xs = [.int i, .int j] ∧ Q (.int (if j < i then j else i)) H) bMin2 := by
  intro ρ G H us vs Q E S r h
  unfold bMin2 at h
  split at h
  · obtain ⟨v, w, rfl, rv, rw'⟩ := r.two
    cases rv
    cases rw'
    exact ⟨_, _, rfl, h.end_ S (.int _)⟩
  · exact h.elim
theorem oTuple : OpN K (fun xs H Q => ∃ p ys, xs = [.ref p] ∧ ((SqL K.K H p ys ∧ ∀ l, H l = none → Q (.ref l) (upd H l (.tup ys))) ∨ (SqT K.K H p ys ∧ Q (.ref p) H))) bTuple := by
  intro ρ G H us vs Q E S r h
  unfold bTuple at h
  split at h
  · rename_i u
    obtain ⟨v, rfl, rv⟩ := r.one
    cases q : seqU G u with
    | none => rw [q] at h; exact h.elim
    | some xs =>
      rw [q] at h
      have h : Post K (RU K) ρ H (.ok (.tup xs) G) Q E := h
      cases rv with
      | @tup ys ws a ha hr => cases q; exact ⟨a, ws, rfl, .inr ⟨ha.sq, h.end_ S (.tup ha hr)⟩⟩
      | @rl ys ws a ha hr => cases q; exact ⟨a, ws, rfl, .inl ⟨ha.sq, newTup S hr h⟩⟩
      | @ref l a ha =>
        unfold seqU at q
        simp only at q
        cases e1 : G[l]? with
        | none => rw [e1] at q; exact nomatch q
        | some o =>
          rw [e1] at q
          cases o with
          | lst ys =>
            cases q
            obtain ⟨ws, e2, r2⟩ := S.list ha e1
            exact ⟨a, ws, rfl, .inl ⟨SqL.of e2, newTup S r2 h⟩⟩
          | _ => exact nomatch q
      | _ => exact nomatch q
  · exact h.elim
theorem oList : OpN K (fun xs H Q => ∃ p ys, xs = [.ref p] ∧ (SqL K.K H p ys ∨ SqT K.K H p ys) ∧ ∀ l, H l = none → Q (.ref l) (upd H l (.lst ys))) bList := by
  intro ρ G H us vs Q E S r h
  unfold bList at h
  split at h
  · rename_i u
    obtain ⟨v, rfl, rv⟩ := r.one
    cases q : seqU G u with
    | none => rw [q] at h; exact h.elim
    | some xs =>
      rw [q] at h
      obtain ⟨p, ws, rfl, hq, hr⟩ := seqU_ok S rv q
      exact ⟨p, ws, rfl, hq, newLst S hr h⟩
  · exact h.elim
end
/-! ### methods of lists -/
def mAppend (x : U) (us : List U) (G : Gp) : R U := match x, us with
  | .ref l, [y] => match G[l]? with
    | some (.lst xs) => if xs.length < 16777216 then .ok .non (G.set l (.lst (xs ++ [y]))) else .bad
    | _ => .bad
  | _, _ => .bad
def mPop (x : U) (us : List U) (G : Gp) : R U := match x, us with
  | .ref l, [] => match G[l]? with
    | some (.lst xs) => match xs[xs.length - 1]? with
      | some y => .ok y (G.set l (.lst xs.dropLast))
      | none => .bad
    | _ => .bad
  | _, _ => .bad
def mPopAt (x : U) (us : List U) (G : Gp) : R U := match x, us with
  | .ref l, [.int i] => if -(2 ^ 63) ≤ i ∧ i < 2 ^ 63 then match G[l]? with
    | some (.lst xs) => match ixN xs.length i with
      | some k => match xs[k]? with
        | some y => .ok y (G.set l (.lst (xs.eraseIdx k)))
        | none => .bad
      | none => .bad
    | _ => .bad
    else .bad
  | _, _ => .bad
def OpM (K : KZ) (r : V → List V → Hp → VK → Prop) (g : U → List U → Gp → R U) : Prop := ∀ ρ G H x v us vs Q E, Sim K ρ G H → RU K ρ H x v → RUs K ρ H us vs → Post K (RU K) ρ H (g x us G) Q E → r v vs H Q
def isLst (u : U) (G : Gp) : Bool := match u with
  | .ref l => match G[l]? with
    | some (.lst _) => true
    | _ => false
  | _ => false
def eMeth (g : U → List U → Gp → R U) (fo : Ev → Gp → R U) (fa : Ev → Gp → R (List U)) : Ev → Gp → R U := fun env G => (fo env G).bind fun o G1 => if isLst o G1 = true then (fa env G1).bind fun us G2 => g o us G2 else .bad
section
variable {K : KZ}
theorem isLst_ok {ρ : List Addr} {G : Gp} {H : Hp} {u : U} {v : V} (S : Sim K ρ G H) (r : RU K ρ H u v) (h : isLst u G = true) : tyV K.K "list" v H := by
  cases r with
  | @ref l a ha =>
    unfold isLst at h
    simp only at h
    cases q : G[l]? with
    | none => rw [q] at h; exact nomatch h
    | some o =>
      rw [q] at h
      cases o with
      | lst xs =>
        obtain ⟨vs, e, _⟩ := S.list ha q
        exact .inl ⟨rfl, vs, SqL.of e⟩
      | _ => exact nomatch h
  | _ => exact nomatch h
theorem RUs.zero {ρ : List Addr} {H : Hp} {vs : List V} (r : RUs K ρ H [] vs) : vs = [] := by cases r; rfl
theorem RUs.dropLast {ρ : List Addr} {H : Hp} : ∀ {us : List U} {vs : List V}, RUs K ρ H us vs → RUs K ρ H us.dropLast vs.dropLast
  | _, _, .nil => .nil
  | _, _, .cons h .nil => .nil
  | _, _, .cons h (.cons h2 t) => .cons h (RUs.dropLast (.cons h2 t))
theorem RUs.eraseIdx {ρ : List Addr} {H : Hp} : ∀ {us : List U} {vs : List V}, RUs K ρ H us vs → ∀ i : Nat, RUs K ρ H (us.eraseIdx i) (vs.eraseIdx i)
  | _, _, .nil, _ => .nil
  | _, _, .cons _ t, 0 => t
  | _, _, .cons h t, i + 1 => .cons h (t.eraseIdx i)
theorem updEnd {ρ : List Addr} {G : Gp} {H : Hp} {l : Nat} {a : Addr} {xs ys : List U} {vs ws : List V} {u : U} {v : V} {Q : VK} {E : XK} (S : Sim K ρ G H) (ha : ρ[l]? = some a) (e : H a = some (.lst vs)) (r : RUs K ρ H ys ws) (ru : RU K ρ H u v)
    (h : Post K (RU K) ρ H (.ok u (G.set l (.lst ys))) Q E) : Q v (upd H a (.lst ws)) := by
  obtain ⟨S', st⟩ := S.setList (xs := xs) ha e r
  exact h v ρ _ pre_refl st S' (ru.mono pre_refl st)
theorem oAppend : OpM K rAppend mAppend := by
  intro ρ G H x v us vs Q E S rx rs h
  unfold mAppend at h
  split at h
  · rename_i l y
    cases rx with
    | @ref _ a ha =>
      obtain ⟨w, rfl, rw'⟩ := rs.one
      cases q : G[l]? with
      | none => rw [q] at h; exact h.elim
      | some o =>
        rw [q] at h
        cases o with
        | lst xs =>
          obtain ⟨ws, e, r⟩ := S.list ha q
          simp only at h
          by_cases hl : xs.length < 16777216
          · rw [if_pos hl] at h
            exact ⟨a, ws, w, rfl, rfl, e, by rw [← r.len, line_eq]; exact hl, updEnd (xs := xs) S ha e (r.append (.cons rw' .nil)) .non h⟩
          · rw [if_neg hl] at h; exact h.elim
        | _ => exact h.elim
  · exact h.elim
theorem oPop : OpM K rPop mPop := by
  intro ρ G H x v us vs Q E S rx rs h
  unfold mPop at h
  split at h
  · rename_i l
    cases rx with
    | @ref _ a ha =>
      cases rs.zero
      cases q : G[l]? with
      | none => rw [q] at h; exact h.elim
      | some o =>
        rw [q] at h
        cases o with
        | lst xs =>
          obtain ⟨ws, e, r⟩ := S.list ha q
          simp only at h
          cases q2 : xs[xs.length - 1]? with
          | none => rw [q2] at h; exact h.elim
          | some y =>
            rw [q2] at h
            obtain ⟨w, e2, rw'⟩ := r.getU q2
            exact ⟨a, ws, w, rfl, rfl, e, by rw [← r.len]; exact e2, updEnd (xs := xs) S ha e r.dropLast rw' h⟩
        | _ => exact h.elim
  · exact h.elim
theorem oPopAt : OpM K rPopAt mPopAt := by
  intro ρ G H x v us vs Q E S rx rs h
  unfold mPopAt at h
  split at h
  · rename_i l i
    by_cases hi : -(2 ^ 63) ≤ i ∧ i < 2 ^ 63
    · rw [if_pos hi] at h
      cases rx with
      | @ref _ a ha =>
        obtain ⟨w0, rfl, rw0⟩ := rs.one
        cases rw0
        cases q : G[l]? with
        | none => rw [q] at h; exact h.elim
        | some o =>
          rw [q] at h
          cases o with
          | lst xs =>
            obtain ⟨ws, e, r⟩ := S.list ha q
            simp only at h
            cases q1 : ixN xs.length i with
            | none => rw [q1] at h; exact h.elim
            | some k =>
              rw [q1] at h
              simp only at h
              cases q2 : xs[k]? with
              | none => rw [q2] at h; exact h.elim
              | some y =>
                rw [q2] at h
                obtain ⟨w, e2, rw'⟩ := r.getU q2
                obtain ⟨h1, h2, h3, h4⟩ := ixN_seq q1
                exact ⟨a, ws, i, k, w, rfl, rfl, e, hi.1, hi.2, by rw [← r.len]; exact h1, e2, updEnd (xs := xs) S ha e (r.eraseIdx k) rw' h⟩
          | _ => exact h.elim
    · rw [if_neg hi] at h; exact h.elim
  · exact h.elim
end
section
variable {X : Cx} {Z : ZZ X.K} {W : WX} {o e : Expr} {es : List Expr} {fo : Ev → Gp → R U} {fa : Ev → Gp → R (List U)} {g : U → List U → Gp → R U} {r : V → List V → Hp → VK → Prop} {id : String} {name : Str} {apos cpos : Pos}
theorem fmeth (om : OpM (kz X Z) r g) (slot : Slot "list" name id) (hty : typeOf (.builtin id) = pure (.type "method_descriptor")) (hm : MtR X id r) (ho : FE X Z W o fo) (ha : FA X Z W (e :: es) fa)
    (hbase : attributeBase o name X.env (eval o X.env) = eval o X.env := by rfl)
    (hfew : ((backTo cpos (starEach (e :: es) X.env)).all (fun x => !x.1) && (backToKw cpos (keywordEach [] X.env)).all (fun x => x.1.isSome)
      && decide ((e :: es).length + ([] : List Keyword).length + (if ([] : List Keyword).isEmpty then 0 else 1) < 30)) = true := by rfl)
    (hline : (apos.endLine == cpos.line) = true := by rfl) (hs : starEach (e :: es) X.env = (false, eval e X.env) :: starEach es X.env := by rfl) (hplain : (backTo cpos (starEach es X.env)).any (·.1) = false := by rfl) :
    FE X Z W (.Call (.Attribute o name apos) (e :: es) [] cpos) (eMeth g fo fa) := by
  refine PEimp (pe_bm PySem.F.plainAttrs_list slot hty hm ho ha hbase hfew hline hs hplain) fun σ H Q ⟨ρ, G, env, S, e, h⟩ => ?_
  refine tG_mono (step S e h) fun v H1 ⟨ρ1, G1, x, p1, s1, S1, e1, r1, h1⟩ => ?_
  by_cases hl : isLst x G1 = true
  · rw [if_pos hl] at h1
    exact ⟨isLst_ok S1 r1 hl, tG_mono (step (rel := RUs (kz X Z)) S1 e1 h1) fun w H2 ⟨ρ2, G2, y, p2, s2, S2, e2, r2, h2⟩ => om _ _ _ _ _ _ _ _ _ S2 (r1.mono p2 s2) r2 h2⟩
  · rw [if_neg hl] at h1; exact h1.elim
theorem fmeth0 (om : OpM (kz X Z) r g) (slot : Slot "list" name id) (hty : typeOf (.builtin id) = pure (.type "method_descriptor")) (hm : MtR X id r) (ho : FE X Z W o fo)
    (hbase : attributeBase o name X.env (eval o X.env) = eval o X.env := by rfl) (hline : (apos.endLine == cpos.line) = true := by rfl) : FE X Z W (.Call (.Attribute o name apos) [] [] cpos) (eMeth g fo aNil) := by
  refine PEimp (pe_bm0 PySem.F.plainAttrs_list slot hty hm ho hbase hline) fun σ H Q ⟨ρ, G, env, S, e, h⟩ => ?_
  refine tG_mono (step S e h) fun v H1 ⟨ρ1, G1, x, p1, s1, S1, e1, r1, h1⟩ => ?_
  by_cases hl : isLst x G1 = true
  · rw [if_pos hl] at h1
    exact ⟨isLst_ok S1 r1 hl, om _ _ _ _ _ _ _ _ _ S1 r1 .nil h1⟩
  · rw [if_neg hl] at h1; exact h1.elim
end
end FL

set_option Elab.async false
set_option linter.all false
set_option maxRecDepth 100000
set_option maxHeartbeats 4000000
set_option autoImplicit false
namespace FL
open PySem PySem.Spec L2

/-! ### list comprehensions -/
def compN (nth : Nat → Gp → Option (Option U)) (gf : U → Ev → Gp → R Ev) (ft : Ev → Gp → R Bool) (fe : Ev → Gp → R U) (l : Nat) (env0 : Ev) : Nat → Nat → Gp → R U
  | 0, _, _ => .bad
  | n + 1, i, G => match nth i G with
    | none => .bad
    | some none => .ok (.ref l) G
    | some (some u) => (gf u env0 G).bindN fun env1 G1 => (ft env1 G1).bindN fun b G2 => if b = true then (fe env1 G2).bindN fun y G3 => match G3[l]? with
        | some (.lst acc) => if acc.length < 16777216 then compN nth gf ft fe l env0 n (i + 1) (G3.set l (.lst (acc ++ [y]))) else .bad
        | _ => .bad
      else compN nth gf ft fe l env0 n (i + 1) G2
def compL (gf : U → Ev → Gp → R Ev) (ft : Ev → Gp → R Bool) (fe : Ev → Gp → R U) (l : Nat) (env0 : Ev) : List U → Gp → R U
  | [], G => .ok (.ref l) G
  | u :: us, G => (gf u env0 G).bindN fun env1 G1 => (ft env1 G1).bindN fun b G2 => if b = true then (fe env1 G2).bindN fun y G3 => match G3[l]? with
        | some (.lst acc) => if acc.length < 16777216 then compL gf ft fe l env0 us (G3.set l (.lst (acc ++ [y]))) else .bad
        | _ => .bad
      else compL gf ft fe l env0 us G2
def wipeE (env : Ev) : List Nat → Ev
  | [] => env
  | v :: vs => (wipeE env vs).set v none
def eComp (own : List Nat) (fi : Ev → Gp → R Src) (gf : U → Ev → Gp → R Ev) (ft : Ev → Gp → R Bool) (fe : Ev → Gp → R U) : Ev → Gp → R U := fun env G => (fi env G).bind fun src G1 => match src with
  | .items xs => compL gf ft fe G1.length (wipeE env own) xs (G1 ++ [.lst []])
  | .live n nth => compN nth gf ft fe G1.length (wipeE env own) n 0 (G1 ++ [.lst []])
theorem compL_drop {gf : U → Ev → Gp → R Ev} {ft : Ev → Gp → R Bool} {fe : Ev → Gp → R U} {l : Nat} {env0 : Ev} {xs : List U} : ∀ (m i : Nat) (G : Gp), m = xs.length + 1 - i → i ≤ xs.length → compN (fun i _ => some xs[i]?) gf ft fe l env0 m i G = compL gf ft fe l env0 (xs.drop i) G := by
  intro m
  induction m with
  | zero => intro i G h1 h2; omega
  | succ m ih =>
    intro i G h1 h2
    by_cases hi : i < xs.length
    · have e : xs.drop i = xs[i] :: xs.drop (i + 1) := List.drop_eq_getElem_cons hi
      rw [e]
      have ih' : ∀ G, compN (fun i _ => some xs[i]?) gf ft fe l env0 m (i + 1) G = compL gf ft fe l env0 (xs.drop (i + 1)) G := fun G => ih (i + 1) G (by omega) hi
      unfold compN compL
      simp only [List.getElem?_eq_getElem hi, ih']
    · have e : i = xs.length := by omega
      subst e
      rw [List.drop_length]
      unfold compN compL
      simp only [List.getElem?_eq_none (Nat.le_refl _)]
theorem eComp_run {src : Src} {gf : U → Ev → Gp → R Ev} {ft : Ev → Gp → R Bool} {fe : Ev → Gp → R U} {l : Nat} {env : Ev} {G1 : Gp} : (match src with
  | .items xs => compL gf ft fe l env xs G1
  | .live n nth => compN nth gf ft fe l env n 0 G1) = compN src.nth gf ft fe l env src.fuel 0 G1 := by
  cases src with
  | items xs =>
    show compL gf ft fe l env xs G1 = compN (fun i _ => some xs[i]?) gf ft fe l env (xs.length + 1) 0 G1
    rw [compL_drop (xs.length + 1) 0 G1 (by omega) (Nat.zero_le _)]
    rfl
  | live n nth => rfl
/-- no exception is let out -/
def W0 : WX := fun _ _ _ _ => False
section
variable {K : KZ} {ρ : List Addr} {H : Hp}
theorem REq.wipe (hZ : K.Z.er = none) {env : Ev} {σ : St} (e : REq K ρ H env σ) : ∀ vs : List Nat, REq K ρ H (wipeE env vs) (wipe σ vs)
  | [] => e
  | v :: vs => (REq.wipe hZ e vs).unset hZ v
theorem wipe_set {σ : St} {i : Nat} {x : Option V} : ∀ {vs : List Nat}, i ∈ vs → wipe (σ.set i x) vs = wipe σ vs
  | v :: vs, h => by
    by_cases hi : i ∈ vs
    · show (wipe (σ.set i x) vs).set v none = (wipe σ vs).set v none
      rw [wipe_set hi]
    · have hv : v = i := by
        rcases List.mem_cons.mp h with e | e
        · exact e.symm
        · exact absurd e hi
      subst hv
      have out : ∀ (ws : List Nat), v ∉ ws → wipe (σ.set v x) ws = (wipe σ ws).set v x := by
        intro ws
        induction ws with
        | nil => intro _; rfl
        | cons w ws ih =>
          intro hw
          show (wipe (σ.set v x) ws).set w none = ((wipe σ ws).set w none).set v x
          rw [ih fun z => hw (List.mem_cons_of_mem _ z), List.set_comm _ _ (fun z => hw (by rw [z]; exact List.mem_cons_self))]
      show (wipe (σ.set v x) vs).set v none = (wipe σ vs).set v none
      rw [out vs hi, List.set_set]
end
/-- a target whose stores lie among vs -/
def tgW (K : KZ) (gf : U → Ev → Gp → R Ev) (vs : List Nat) : TG := fun v σ H Q => ∃ ρ G env u, Sim K ρ G H ∧ REq K ρ H env σ ∧ RU K ρ H u v ∧ match gf u env G with
  | .ok env' G' => ∀ σ' ρ' H', ρ <+: ρ' → Stb K H H' → Sim K ρ' G' H' → REq K ρ' H' env' σ' → wipe σ' vs = wipe σ vs → Q σ' H'
  | _ => False
def tgWs (K : KZ) (gs : List U → Ev → Gp → R Ev) (vs : List Nat) : TGs := fun ws σ H Q => ∃ ρ G env us, Sim K ρ G H ∧ REq K ρ H env σ ∧ RUs K ρ H us ws ∧ match gs us env G with
  | .ok env' G' => ∀ σ' ρ' H', ρ <+: ρ' → Stb K H H' → Sim K ρ' G' H' → REq K ρ' H' env' σ' → wipe σ' vs = wipe σ vs → Q σ' H'
  | _ => False
abbrev FGw (X : Cx) (Z : ZZ X.K) (e : Expr) (gf : U → Ev → Gp → R Ev) (vs : List Nat) : Prop := PG X e (tgW (kz X Z) gf vs)
abbrev FGws (X : Cx) (Z : ZZ X.K) (es : List Expr) (gs : List U → Ev → Gp → R Ev) (vs : List Nat) : Prop := PGs X es (tgWs (kz X Z) gs vs)
section
variable {X : Cx} {Z : ZZ X.K} {W : WX} {e : Expr} {es : List Expr} {pos : Pos} {vs : List Nat}
theorem fwname {i : Nat} {x : Str} (hN : X.N.Nodup) (hi : X.N[i]? = some x) (hx : Loc X.env.scope x) (hv : i ∈ vs := by decide) (hf : X.fn x = true ∨ X.env.scope.names.lookup x = some .local := by first | exact .inl rfl | exact .inr rfl | assumption) : FGw X Z (.Name x pos) (gNm i) vs :=
  PGimp (pg_name hN hi hx hf) fun v σ H Q ⟨ρ, G, env, u, S, e, r, h⟩ => h _ ρ H pre_refl Stb.refl S (e.set r i) (wipe_set hv)
theorem fwnil : FGws X Z [] gNil vs := by
  refine PGsimp pgs_nil fun ws σ H Q ⟨ρ, G, env, us, S, e, r, h⟩ => ?_
  cases r with
  | nil => exact ⟨rfl, h _ ρ H pre_refl Stb.refl S e rfl⟩
  | cons _ _ => exact h.elim
theorem fwcons {g : U → Ev → Gp → R Ev} {gs : List U → Ev → Gp → R Ev} (h1 : FGw X Z e g vs) (h2 : FGws X Z es gs vs) (hs : (assignEach (e :: es) X.env).map (·.2) = assign e X.env :: (assignEach es X.env).map (·.2) := by rfl) : FGws X Z (e :: es) (gCons g gs) vs := by
  refine PGsimp (pgs_cons h1 h2 hs) fun ws σ H Q ⟨ρ, G, env, us, S, e, r, h⟩ => ?_
  cases r with
  | nil => exact h.elim
  | @cons x v xs ws hx hr =>
    refine ⟨v, ws, rfl, ρ, G, env, x, S, e, hx, ?_⟩
    have h : match (g x env G).bind fun env' G' => gs xs env' G' with
      | .ok env' G' => ∀ σ' ρ' H', ρ <+: ρ' → Stb (kz X Z) H H' → Sim (kz X Z) ρ' G' H' → REq (kz X Z) ρ' H' env' σ' → wipe σ' vs = wipe σ vs → Q σ' H'
      | _ => False := h
    cases q : g x env G with
    | ok env' G' =>
      rw [q] at h
      intro σ1 ρ1 H1 p1 s1 S1 e1 w1
      refine ⟨ρ1, G', env', xs, S1, e1, hr.mono p1 s1, ?_⟩
      have h : match gs xs env' G' with
        | .ok env' G' => ∀ σ' ρ' H', ρ <+: ρ' → Stb (kz X Z) H H' → Sim (kz X Z) ρ' G' H' → REq (kz X Z) ρ' H' env' σ' → wipe σ' vs = wipe σ vs → Q σ' H'
        | _ => False := h
      cases q2 : gs xs env' G' with
      | ok env2 G2 => rw [q2] at h; exact fun σ' ρ' H' p s S' e' w => h σ' ρ' H' (p1.trans p) (s1.trans s) S' e' (w.trans w1)
      | exc c fs G2 => rw [q2] at h; exact h.elim
      | bad => rw [q2] at h; exact h.elim
    | exc c fs G' => rw [q] at h; exact h.elim
    | bad => rw [q] at h; exact h.elim
theorem fwtup {k n : Nat} {gs : List U → Ev → Gp → R Ev} (hc : X.calm = true) (h : FGws X Z es gs vs) (hn : (assignEach es X.env).length = n := by rfl) (hst : (assignEach es X.env).findIdx? (·.1) = none := by rfl) : FGw X Z (.Tuple es k pos) (gTup gs n) vs := by
  refine PGimp (pg_tup hc h hn hst) fun v σ H Q ⟨ρ, G, env, u, S, e, r, h⟩ => ?_
  cases r with
  | @tup xs ws a ht hr =>
    have h : match (if xs.length = n then gs xs env G else .bad : R Ev) with
      | .ok env' G' => ∀ σ' ρ' H', ρ <+: ρ' → Stb (kz X Z) H H' → Sim (kz X Z) ρ' G' H' → REq (kz X Z) ρ' H' env' σ' → wipe σ' vs = wipe σ vs → Q σ' H'
      | _ => False := h
    by_cases hl : xs.length = n
    · rw [if_pos hl] at h
      exact ⟨a, ws, rfl, ht.sq, by rw [← hr.len]; exact hl, ρ, G, env, xs, S, e, hr, h⟩
    · rw [if_neg hl] at h; exact h.elim
  | _ => exact h.elim
/-- the tests of a comprehension -/
abbrev FTs (X : Cx) (Z : ZZ X.K) (ifs : List Expr) (f : Ev → Gp → R Bool) : Prop := PTs X ifs (ttF (kz X Z) W0 f)
theorem PTsimp {ifs : List Expr} {t t' : TT} (h : PTs X ifs t) (i : ∀ σ H Q, t' σ H Q → t σ H Q) : PTs X ifs t' := ⟨fun pins s σ H Q I q => h.run pins s σ H Q I (i σ H Q q)⟩
def tYesB : Ev → Gp → R Bool := fun _ G => .ok true G
theorem ftsnil : FTs X Z [] tYesB := PTsimp pts_nil fun σ H Q ⟨ρ, G, env, S, e, h⟩ => Post.end_ (rel := fun _ _ (a b : Bool) => a = b) h S rfl
theorem ftsone {c : Expr} {f : Ev → Gp → R Bool} (h : FT X Z W0 c f) : FTs X Z [c] f := pts_one h
end
section
variable {X : Cx} {Z : ZZ X.K} {W : WX}
theorem tLc_of (hZ : Z.er = none) {fi : Ev → Gp → R Src} {gf : U → Ev → Gp → R Ev} {ft : Ev → Gp → R Bool} {fe : Ev → Gp → R U} {own : List Nat} (σ : St) (H : Hp) (Q : VK) (h : tF (kz X Z) W (eComp own fi gf ft fe) σ H Q) :
    tLc (tiF (kz X Z) W fi) (tgW (kz X Z) gf own) (ttF (kz X Z) W0 ft) (tF (kz X Z) W0 fe) own σ H Q := by
  obtain ⟨ρ, G, env, S, e, h⟩ := h
  refine ⟨ρ, G, env, S, e, ?_⟩
  unfold eComp at h
  cases q : fi env G with
  | bad => rw [q] at h; exact h
  | exc c fs G1 => rw [q] at h; exact h
  | ok src G1 =>
    rw [q] at h
    have h : Post (kz X Z) (RU (kz X Z)) ρ H (compN src.nth gf ft fe G1.length (wipeE env own) src.fuel 0 (G1 ++ [.lst []])) Q fun c d H' => W c d σ H' := by rw [← eComp_run]; exact h
    intro ρ1 H1 J p1 s1 S1 wk D hD
    have sn : Stb (kz X Z) H1 (upd H1 D (.lst [])) := stb_new hD
    have Sn : Sim (kz X Z) (ρ1 ++ [D]) (G1 ++ [.lst []]) (upd H1 D (.lst [])) := S1.new hD (show RUs (kz X Z) _ _ [] [] from .nil)
    have hl : ∀ ρ2, (ρ1 ++ [D]) <+: ρ2 → ρ2[G1.length]? = some D := fun ρ2 p => pre_get p (by rw [← S1.len]; simp)
    refine ⟨fun i m H2 => ∃ ρ2 G2, (ρ1 ++ [D]) <+: ρ2 ∧ Stb (kz X Z) (upd H1 D (.lst [])) H2 ∧ Sim (kz X Z) ρ2 G2 H2 ∧ Post (kz X Z) (RU (kz X Z)) ρ2 H2 (compN src.nth gf ft fe G1.length (wipeE env own) m i G2) Q fun c d H' => W c d σ H',
      ⟨src.fuel, ρ1 ++ [D], _, pre_refl, Stb.refl, Sn, Post.lift h (p1.trans ⟨[D], rfl⟩) (s1.trans sn)⟩, ?_⟩
    rintro i m H2 ⟨ρ2, G2, p2, s2, S2, h2⟩
    have pp : ρ1 <+: ρ2 := List.IsPrefix.trans ⟨[D], rfl⟩ p2
    have ss : Stb (kz X Z) H1 H2 := sn.trans s2
    cases m with
    | zero => exact h2.elim
    | succ m =>
      have w := wk ρ2 H2 G2 i pp ss S2
      unfold compN at h2
      have en : src.nth i G2 = src.at_ i G2 := rfl
      rw [en] at h2
      cases qn : src.at_ i G2 with
      | none => rw [qn] at h2; exact h2.elim
      | some o =>
        rw [qn] at h2 w
        cases o with
        | none => exact .inl ⟨w, h2.end_ S2 (.ref (hl ρ2 p2))⟩
        | some u =>
          refine .inr ⟨w.1, fun H' => ∃ ρ3 G3, (ρ1 ++ [D]) <+: ρ3 ∧ Stb (kz X Z) (upd H1 D (.lst [])) H' ∧ Sim (kz X Z) ρ3 G3 H' ∧ Post (kz X Z) (RU (kz X Z)) ρ3 H' (compN src.nth gf ft fe G1.length (wipeE env own) m (i + 1) G3) Q fun c d H' => W c d σ H',
            fun H' z => ⟨m, Nat.lt_succ_self m, z⟩, fun x H3 y => ?_⟩
          obtain ⟨s3, S3, rx⟩ := w.2 x H3 y
          have h3 : Post (kz X Z) (RU (kz X Z)) ρ2 H3 ((gf u (wipeE env own) G2).bindN fun env1 G1' => (ft env1 G1').bindN fun b G2' => if b = true then (fe env1 G2').bindN fun y G3 => match G3[G1.length]? with
              | some (.lst acc) => if acc.length < 16777216 then compN src.nth gf ft fe G1.length (wipeE env own) m (i + 1) (G3.set G1.length (.lst (acc ++ [y]))) else .bad
              | _ => .bad
            else compN src.nth gf ft fe G1.length (wipeE env own) m (i + 1) G2') Q fun c d H' => W c d σ H' := Post.lift h2 pre_refl s3
          have ew : REq (kz X Z) ρ2 H3 (wipeE env own) (wipe σ own) := ((e.mono (p1.trans pp) ((s1.trans ss).trans s3))).wipe hZ own
          refine ⟨ρ2, G2, wipeE env own, u, S3, ew, rx, ?_⟩
          cases qg : gf u (wipeE env own) G2 with
          | bad => rw [qg] at h3; exact h3
          | exc c fs G' => rw [qg] at h3; exact h3
          | ok env3 G3 =>
            rw [qg] at h3
            intro σ4 ρ4 H4 p4 s4 S4 e4 w4
            have idem : ∀ τ : St, wipe (wipe τ own) own = wipe τ own := by
              intro τ
              have hh : ∀ (ws : List Nat), (∀ v ∈ ws, v ∈ own) → wipe (wipe τ ws) own = wipe τ own := by
                intro ws
                induction ws with
                | nil => intro _; rfl
                | cons v ws ih =>
                  intro hv
                  show wipe ((wipe τ ws).set v none) own = _
                  rw [wipe_set (hv v List.mem_cons_self)]
                  exact ih fun x hx => hv x (List.mem_cons_of_mem _ hx)
              exact hh own fun _ h => h
            refine ⟨w4.trans (idem σ), ?_⟩
            have h4 : Post (kz X Z) (RU (kz X Z)) ρ4 H4 ((ft env3 G3).bindN fun b G2' => if b = true then (fe env3 G2').bindN fun y G3 => match G3[G1.length]? with
                | some (.lst acc) => if acc.length < 16777216 then compN src.nth gf ft fe G1.length (wipeE env own) m (i + 1) (G3.set G1.length (.lst (acc ++ [y]))) else .bad
                | _ => .bad
              else compN src.nth gf ft fe G1.length (wipeE env own) m (i + 1) G2') Q fun c d H' => W c d σ H' := Post.lift h3 p4 s4
            refine ⟨ρ4, G3, env3, S4, e4, ?_⟩
            cases qt : ft env3 G3 with
            | bad => rw [qt] at h4; exact h4
            | exc c fs G' => rw [qt] at h4; exact h4.elim
            | ok b G5 =>
              rw [qt] at h4
              intro b' ρ5 H5 p5 s5 S5 r5
              have r5 : b = b' := r5
              subst r5
              have h5 : Post (kz X Z) (RU (kz X Z)) ρ5 H5 (if b = true then (fe env3 G5).bindN fun y G3 => match G3[G1.length]? with
                  | some (.lst acc) => if acc.length < 16777216 then compN src.nth gf ft fe G1.length (wipeE env own) m (i + 1) (G3.set G1.length (.lst (acc ++ [y]))) else .bad
                  | _ => .bad
                else compN src.nth gf ft fe G1.length (wipeE env own) m (i + 1) G5) Q fun c d H' => W c d σ H' := Post.lift h4 p5 s5
              cases b with
              | false => exact ⟨ρ5, G5, p2.trans (p4.trans p5), (s2.trans s3).trans (s4.trans s5), S5, h5⟩
              | true =>
                rw [if_pos rfl]
                rw [if_pos rfl] at h5
                refine ⟨ρ5, G5, env3, S5, e4.mono p5 s5, ?_⟩
                cases qe : fe env3 G5 with
                | bad => rw [qe] at h5; exact h5
                | exc c fs G' => rw [qe] at h5; exact h5.elim
                | ok yv G6 =>
                  rw [qe] at h5
                  intro yV ρ6 H6 p6 s6 S6 r6
                  have h6 : Post (kz X Z) (RU (kz X Z)) ρ6 H6 (match G6[G1.length]? with
                    | some (.lst acc) => if acc.length < 16777216 then compN src.nth gf ft fe G1.length (wipeE env own) m (i + 1) (G6.set G1.length (.lst (acc ++ [yv]))) else .bad
                    | _ => .bad) Q fun c d H' => W c d σ H' := Post.lift h5 p6 s6
                  have pq : (ρ1 ++ [D]) <+: ρ6 := ((p2.trans p4).trans p5).trans p6
                  cases ql : G6[G1.length]? with
                  | none => rw [ql] at h6; exact h6.elim
                  | some ob =>
                    rw [ql] at h6
                    cases ob with
                    | lst acc =>
                      simp only at h6
                      by_cases hz : acc.length < 16777216
                      · rw [if_pos hz] at h6
                        obtain ⟨vs, ev, rv⟩ := S6.list (hl ρ6 pq) ql
                        obtain ⟨S7, s7⟩ := S6.setList (xs := acc) (hl ρ6 pq) ev (rv.append (.cons r6 .nil))
                        exact ⟨vs, ev, by rw [← rv.len, line_eq]; exact hz, ρ6, _, pq, (((s2.trans s3).trans s4).trans (s5.trans s6)).trans s7, S7, Post.lift h6 pre_refl s7⟩
                      · rw [if_neg hz] at h6; exact h6.elim
                    | _ => exact h6.elim
theorem fcomp {elt tg iter : Expr} {ifs : List Expr} {scope : Scope} {own : List (Str × Nat)} {pos : Pos} {fi : Ev → Gp → R Src} {gf : U → Ev → Gp → R Ev} {ft : Ev → Gp → R Bool} {fe : Ev → Gp → R U} (hZ : Z.er = none) (hc : X.calm = true) (hN : X.N.Nodup) (hi : FI X Z W tg iter fi) (ok : BlkOk X.N X.env.scope scope own)
    (hg : ∀ (s : Shared) (H : Hp) (C : Addr) (cl : List (Str × Addr)) (fp : List Addr), FGw (X.blk s H scope (compEnvC scope cl C X.env) fp) Z tg gf (own.map (·.2))) (ht : ∀ (s : Shared) (H : Hp) (C : Addr) (cl : List (Str × Addr)) (fp : List Addr), FTs (X.blk s H scope (compEnvC scope cl C X.env) fp) Z ifs ft)
    (he : ∀ (s : Shared) (H : Hp) (C : Addr) (cl : List (Str × Addr)) (fp : List Addr), FE (X.blk s H scope (compEnvC scope cl C X.env) fp) Z W0 elt fe) (hs : ∀ x, foldedSetIterable iter X.env x = pure x := by intro _; rfl) :
    FE X Z W (.ListComp elt [⟨tg, iter, ifs, 0⟩] scope pos) (eComp (own.map (·.2)) fi gf ft fe) := PEimp (pe_lc hc hN hi ok hg ht he hs) (tLc_of hZ)
theorem fsetcomp {i : Nat} {y : Str} {py : Pos} {elt tg iter : Expr} {ifs : List Expr} {scope : Scope} {own : List (Str × Nat)} {pos spos : Pos} {fi : Ev → Gp → R Src} {gf : U → Ev → Gp → R Ev} {ft : Ev → Gp → R Bool} {fe : Ev → Gp → R U} (hZ : Z.er = none) (hc : X.calm = true) (hN : X.N.Nodup) (hy : X.N[i]? = some y) (hyl : X.env.scope.names.lookup y = some .local)
    (hsw : swapsWith (.ListComp elt [⟨tg, iter, ifs, 0⟩] scope pos) (some (.Name y py)) spos.line X.env = pure true) (hi : FI X Z W tg iter fi) (ok : BlkOk X.N X.env.scope scope own)
    (hg : ∀ (s : Shared) (H : Hp) (C : Addr) (cl : List (Str × Addr)) (fp : List Addr), FGw (X.blk s H scope (compEnvC scope cl C X.env) fp) Z tg gf (own.map (·.2))) (ht : ∀ (s : Shared) (H : Hp) (C : Addr) (cl : List (Str × Addr)) (fp : List Addr), FTs (X.blk s H scope (compEnvC scope cl C X.env) fp) Z ifs ft)
    (he : ∀ (s : Shared) (H : Hp) (C : Addr) (cl : List (Str × Addr)) (fp : List Addr), FE (X.blk s H scope (compEnvC scope cl C X.env) fp) Z W0 elt fe) (hs : ∀ x, foldedSetIterable iter X.env x = pure x := by intro _; rfl) :
    FS X Z W (.Assign [.Name y py] (.ListComp elt [⟨tg, iter, ifs, 0⟩] scope pos) spos) (sAsg (eComp (own.map (·.2)) fi gf ft fe) (gNm i)) := by
  refine PSimp (ps_setLc (te := tF (kz X Z) W0 fe) (tt := ttF (kz X Z) W0 ft) (g := tgW (kz X Z) gf (own.map (·.2))) hc hN hy hyl hsw hi ok hg ht he hs) fun D σ H ⟨ρ, G, env, S, e, h⟩ => ?_
  refine tLc_of (W := W) hZ σ H _ ?_
  exact tG_mono (stepS S e h) fun v H1 ⟨ρ1, G1, x, p1, s1, S1, e1, r1, h1⟩ => h1 _ _ _ pre_refl Stb.refl S1 (e1.set r1 i)
end
end FL

set_option Elab.async false
set_option linter.all false
set_option maxRecDepth 100000
set_option maxHeartbeats 4000000
set_option autoImplicit false
namespace FL
open PySem PySem.Spec L2

/-! ### defs -/
def zP {K : PySem.W.Frag} (Z : ZZ K) : KZ := ⟨K, Z⟩
/-- the promise of a def: it does what F tells -/
def spF (K : PySem.W.Frag) (n : Nat) (F : List U → Gp → R U) : Sp := fun vs H Q E => vs.length = n ∧ ∃ (Z : ZZ K) (ρ : List Addr) (G : Gp) (us : List U), Z.er = none ∧ Sim ⟨K, Z⟩ ρ G H ∧ RUs ⟨K, Z⟩ ρ H us vs ∧ Post ⟨K, Z⟩ (RU ⟨K, Z⟩) ρ H (F us G) Q E
/-- a def by its body: n parameters, m names in all -/
def defF (n m : Nat) (body : Ev → Gp → SR) (us : List U) (G : Gp) : R U := if us.length = n then (match body (startE m us) G with
  | .nx _ G' => .ok .non G'
  | .ret u G' => .ok u G'
  | .exc c fs _ G' => .exc c fs G'
  | _ => .bad) else .bad
abbrev FnF (P : Program) (w : World) (K : PySem.W.Frag) (mg : Str → Option Value) (base : Heap) (k : Nat) (f : Addr) (fd : FuncData) (ps : List Str) (F : List U → Gp → R U) : Prop := FnOk P w K mg base (CX P w) k f fd ps (spF K ps.length F)
section
variable {P : Program} {w : World} {K : PySem.W.Frag} {mg : Str → Option Value} {base : Heap}
/-- what an exception that leaves the def's body wants -/
def wE (E : XK) : WX := fun cls d _ H => E cls d H
theorem fnF_of {x qual : Str} {params : Arguments} {body : List Stmt} {scope : Scope} {kws : List (Str × V)} {dvs : List V} {f : Addr} {fd : FuncData} {N ps : List Str} {k : Nat} {g : Ev → Gp → SR} (F : FunD K x qual params body scope dvs kws f fd) (S : FnScope N ps scope)
    (hb : ∀ (Z : ZZ K) (hZ : Z.er = none) (X : Cx) (cdv : Value) (A : Around) (outer : List Env) (s : Shared) (H : Hp) (E : XK), X = cxOf (CX P w) P w K mg base N qual scope f cdv A outer s H E → Room k X.A →
      FSs (cxOf (CX P w) P w K mg base N qual scope f cdv A outer s H E) Z (wE E) body g) : FnF P w K mg base (k + 1) f fd ps (defF ps.length N.length g) := by
  refine F.ok S (fun vs H Q E h => h.1) fun cdv A outer s H vs Q E hr h => ?_
  obtain ⟨hl, Z, ρ, G, us, hZ, Sm, r, h⟩ := h
  refine ⟨_, hb Z hZ _ cdv A outer s H E rfl hr, ρ, G, startE N.length us, Sm, REq.start hZ r N, ?_⟩
  unfold defF at h
  rw [if_pos (by rw [r.len]; exact hl)] at h
  cases q : g (startE N.length us) G with
  | nx e G' => rw [q] at h; exact fun σ' ρ' H' p s S' e' => h .non ρ' H' p s S' .non
  | ret u G' => rw [q] at h; exact h
  | brk e G' => rw [q] at h; exact h.elim
  | ct e G' => rw [q] at h; exact h.elim
  | exc c fs e G' => rw [q] at h; exact fun σ' d vfs ρ' H' p s S' e' q1 q2 => h d vfs ρ' H' p s S' q1 q2
  | bad => rw [q] at h; exact h.elim
end
section
variable {X : Cx} {Z : ZZ X.K} {W : WX} {k n : Nat} {f : Addr} {fd : FuncData} {ps : List Str} {x : Str} {p pos : Pos} {e : Expr} {es : List Expr} {F : List U → Gp → R U} {fa : Ev → Gp → R (List U)}
theorem passesAt_tk (tk : Takes X W) (σ : St) : PassesAt (CX X.prog X.w) X σ (fun c d H => W c d σ H) := fun pins H s e s' I c => tk e s' (XE.of_call I (fun _ _ _ h => h) c)
/-- a call whose F tells nothing bad has the right number of arguments -/
def Ar (n : Nat) (F : List U → Gp → R U) : Prop := ∀ us G, us.length ≠ n → F us G = .bad
theorem ar_defF {n m : Nat} {g : Ev → Gp → SR} : Ar n (defF n m g) := fun us G h => if_neg h
theorem fcall (hZ : Z.er = none) (Fn : FnF X.prog X.w X.K X.mg X.base k f fd ps F) (ar : Ar ps.length F) (hr : Room k X.A) (tk : Takes X W) (hm : X.mg x = some (.ref f)) (hk : PySem.W.keepIn X.K (.ref f) = true) (hb : Binds X.K fd ps []) (ha : FA X Z W (e :: es) fa) (hg : Gl X x := by rfl)
    (hdb : (x == ("__debug__" : Str)) = false := by decide) (he : starEach (e :: es) X.env = (false, eval e X.env) :: starEach es X.env := by rfl) (hpl : (backTo pos (starEach es X.env)).any (·.1) = false := by rfl) :
    FE X Z W (.Call (.Name x p) (e :: es) [] pos) (eCall F fa) := by
  refine PEimp (pe_callSD (dvs := []) (ds := []) (E := fun σ c d H => W c d σ H) Fn hr hg hm hk hb .nil (passesAt_tk tk) ha hdb he hpl) fun σ H Q ⟨ρ, G, env, S, e, h⟩ => ?_
  refine tG_mono (step (rel := RUs (kz X Z)) S e h) fun vs H1 ⟨ρ1, G1, us, p1, s1, S1, e1, r1, h1⟩ => ?_
  rw [List.append_nil]
  refine ⟨?_, Z, ρ1, G1, us, hZ, S1, r1, h1⟩
  rw [← r1.len]
  by_cases hl : us.length = ps.length
  · exact hl
  · rw [ar us G1 hl] at h1; exact h1.elim
theorem fcall0 (hZ : Z.er = none) (Fn : FnF X.prog X.w X.K X.mg X.base k f fd ps F) (ar : Ar ps.length F) (hr : Room k X.A) (tk : Takes X W) (hm : X.mg x = some (.ref f)) (hk : PySem.W.keepIn X.K (.ref f) = true) (hb : Binds X.K fd ps []) (hg : Gl X x := by rfl)
    (hdb : (x == ("__debug__" : Str)) = false := by decide) : FE X Z W (.Call (.Name x p) [] [] pos) (eCall F aNil) := by
  refine ⟨fun pins s σ H Q I h => ?_⟩
  obtain ⟨ρ, G, env, S, e, h⟩ := h
  have h : Post (kz X Z) (RU (kz X Z)) ρ H (F [] G) Q fun c d H' => W c d σ H' := h
  refine wpAny_Call_Name_kw (ld_glob I hg hm ?_ hdb)
  refine PySem.W.callWith_K0 I.kIn hk (run_fnSD (us := []) (vs := []) (dvs := []) (E := fun σ c d H => W c d σ H) Fn hr hb .nil (passesAt_tk tk σ) I .nil ?_)
  refine ⟨?_, Z, ρ, G, [], hZ, S, .nil, h⟩
  by_cases hl : ([] : List U).length = ps.length
  · exact hl
  · rw [ar [] G hl] at h; exact h.elim
/-! keywords -/
def pickL {α : Type} (idx : List Nat) (xs : List α) : List α := idx.filterMap fun i => xs[i]?
def gK {α : Type} (a b : Nat) (idx : List Nat) (us ws : List α) : List α := if us.length = a ∧ ws.length = b then pickL idx (us ++ ws) else []
theorem pick_vals {xs : List V} {us : List Value} (r : Vals xs us) : ∀ idx : List Nat, Vals (pickL idx xs) (pickL idx us)
  | [] => .nil
  | i :: r' => by
    have ih := pick_vals r r'
    unfold pickL at ih ⊢
    rw [List.filterMap_cons, List.filterMap_cons]
    cases q : xs[i]? with
    | none => rw [r.none_of q]; exact ih
    | some v =>
      obtain ⟨u, e, ru⟩ := r.get q
      rw [e]
      exact .cons ru ih
theorem pick_rel {K : KZ} {ρ : List Addr} {H : Hp} {us : List U} {xs : List V} (r : RUs K ρ H us xs) : ∀ idx : List Nat, RUs K ρ H (pickL idx us) (pickL idx xs)
  | [] => .nil
  | i :: r' => by
    have ih := pick_rel r r'
    unfold pickL at ih ⊢
    rw [List.filterMap_cons, List.filterMap_cons]
    cases q : us[i]? with
    | none =>
      have q2 : xs[i]? = none := List.getElem?_eq_none_iff.mpr (by rw [← r.len]; exact List.getElem?_eq_none_iff.mp q)
      rw [q2]; exact ih
    | some v =>
      obtain ⟨u, e, ru⟩ := r.getU q
      rw [e]
      exact .cons ru ih
theorem gK_vals {a b : Nat} {idx : List Nat} {xs ys : List V} {us ws : List Value} (r : Vals xs us) (q : Vals ys ws) : Vals (gK a b idx xs ys) (gK a b idx us ws) := by
  unfold gK
  rw [r.length, q.length]
  split
  · exact pick_vals (r.append q) idx
  · exact .nil
theorem gK_rel {K : KZ} {ρ : List Addr} {H : Hp} {a b : Nat} {idx : List Nat} {xs ys : List U} {us ws : List V} (r : RUs K ρ H xs us) (q : RUs K ρ H ys ws) : RUs K ρ H (gK a b idx xs ys) (gK a b idx us ws) := by
  unfold gK
  rw [r.len, q.len]
  split
  · exact pick_rel (r.append q) idx
  · exact .nil
abbrev FK (X : Cx) (Z : ZZ X.K) (W : WX) (kws : List Keyword) (f : Ev → Gp → R (List U)) : Prop := PK X kws (taF (kz X Z) W f)
theorem PKimp {kws : List Keyword} {t t' : TA} (h : PK X kws t) (i : ∀ σ H Q, t' σ H Q → t σ H Q) : PK X kws t' := ⟨fun pos pins s σ H Q I q => h.run pos pins s σ H Q I (i σ H Q q)⟩
theorem fknil : FK X Z W [] aNil := by
  refine PKimp pk_nil fun σ H Q ⟨ρ, G, env, S, e, h⟩ => ?_
  exact Post.end_ (a := ([] : List U)) h S .nil
theorem fkcons {e : Expr} {kws : List Keyword} {nm : Option Str} {kpos : Pos} {f : Ev → Gp → R U} {fs : Ev → Gp → R (List U)} (ha : FE X Z W e f) (hr : FK X Z W kws fs) : FK X Z W (⟨nm, e, kpos⟩ :: kws) (aCons f fs) := by
  refine PKimp (pk_cons ha hr) fun σ H Q ⟨ρ, G, env, S, e, h⟩ => ?_
  refine tG_mono (step S e h) fun v H1 ⟨ρ1, G1, x, p1, s1, S1, e1, r1, h1⟩ => ?_
  exact tG_mono (step S1 e1 h1) fun w H2 ⟨ρ2, G2, y, p2, s2, S2, e2, r2, h2⟩ => h2.end_ S2 (.cons (r1.mono p2 s2) r2)
def eCallK (F : List U → Gp → R U) (a b : Nat) (idx : List Nat) (fa fk : Ev → Gp → R (List U)) : Ev → Gp → R U := fun env G => (fa env G).bind fun us G1 => (fk env G1).bind fun ws G2 => F (gK a b idx us ws) G2
theorem run_fnkSD {ks : List Str} {g : List Value → List Value → List Value} {gV : List V → List V → List V} {CX0 : CXT} {sp : Sp} {E : XK} {pins : List (Addr × Obj)} {σ : St} {H : Hp} {s : Shared} {Q : VK} {us ws : List Value} {vs zs : List V} (F : FnOk X.prog X.w X.K X.mg X.base CX0 k f fd ps sp) (hr : Room k X.A) (hb : KBinds X.K fd ps ks g gV) (hx : PassesAt CX0 X σ E)
    (I : Inv X pins σ H s) (r : Vals vs us) (rz : Vals zs ws) (h : sp (gV vs zs) H Q E) : wpAny (model X.prog X.w) X.A (call (.ref f) us (ks.zip ws)) (EP X pins σ Q) X.xe s := by
  have r2 := hb.rel r rz
  have hl : (g us ws).length = ps.length := by rw [← r2.length]; exact F.len _ _ _ _ h
  refine wpAny_call (codeAny_mono (F.run X.A X.stack s H ⟨us, ks.zip ws⟩ (g us ws) (gV vs zs) Q E hr I.env0 (hb.to s us ws I.kIn hl) r2 h) fun r s' hq => ?_)
  cases r with
  | error e => exact hx pins H s e s' I hq
  | ok fl =>
    cases fl with
    | ret u => exact I.after hq
    | next => exact False.elim hq
    | brk => exact False.elim hq
    | cont => exact False.elim hq
theorem fcallK0 {ks : List Str} {b : Nat} {idx : List Nat} {kws : List Keyword} {fk : Ev → Gp → R (List U)} (hZ : Z.er = none) (Fn : FnF X.prog X.w X.K X.mg X.base k f fd ps F) (ar : Ar ps.length F) (hr : Room k X.A) (tk : Takes X W) (hm : X.mg x = some (.ref f)) (hk : PySem.W.keepIn X.K (.ref f) = true)
    (hb : KBinds X.K fd ps ks (gK 0 b idx) (gK 0 b idx)) (hkw : FK X Z W kws fk) (hg : Gl X x := by rfl) (hall : (backToKw pos (keywordEach kws X.env)).all (·.1.isSome) = true := by rfl) (hks : (backToKw pos (keywordEach kws X.env)).filterMap (·.1) = ks := by rfl)
    (hdb : (x == ("__debug__" : Str)) = false := by decide) (hpl : ((backTo pos (starEach ([] : List Expr) X.env)).any (·.1) || (backToKw pos (keywordEach kws X.env)).any (·.1.isNone)) = false := by rfl) :
    FE X Z W (.Call (.Name x p) [] kws pos) (eCallK F 0 b idx aNil fk) := by
  refine ⟨fun pins s σ H Q I h => ?_⟩
  obtain ⟨ρ, G, env, S, e, h⟩ := h
  refine wpAny_Call_Name_kw (ld_glob I hg hm ?_ hdb)
  have h : Post (kz X Z) (RU (kz X Z)) ρ H ((fk env G).bind fun ws G2 => F (gK 0 b idx [] ws) G2) Q fun c d H' => W c d σ H' := h
  refine PySem.W.callWith_KW0 I.kIn hk hall ?_ hpl
  refine thn (hkw.run pos pins s σ H _ I (step (rel := RUs (kz X Z)) S e h)) fun ws s2 ⟨zs, H2, I2, rz, ρ1, G1, us, p1, s1, S1, e1, r1, h1⟩ => ⟨I2.kIn, ?_⟩
  rw [hks]
  refine run_fnkSD (us := []) (vs := []) Fn hr hb (passesAt_tk tk σ) I2 .nil rz ?_
  have rr : RUs (kz X Z) ρ1 H2 (gK 0 b idx [] us) (gK 0 b idx [] zs) := gK_rel .nil r1
  refine ⟨?_, Z, ρ1, G1, _, hZ, S1, rr, h1⟩
  rw [← rr.len]
  by_cases hl : (gK 0 b idx [] us).length = ps.length
  · exact hl
  · rw [ar _ G1 hl] at h1; exact h1.elim
theorem fcallK {ks : List Str} {a b : Nat} {idx : List Nat} {kws : List Keyword} {fk : Ev → Gp → R (List U)} (hZ : Z.er = none) (Fn : FnF X.prog X.w X.K X.mg X.base k f fd ps F) (ar : Ar ps.length F) (hr : Room k X.A) (tk : Takes X W) (hm : X.mg x = some (.ref f)) (hk : PySem.W.keepIn X.K (.ref f) = true)
    (hb : KBinds X.K fd ps ks (gK a b idx) (gK a b idx)) (ha : FA X Z W (e :: es) fa) (hkw : FK X Z W kws fk) (hg : Gl X x := by rfl) (hall : (backToKw pos (keywordEach kws X.env)).all (·.1.isSome) = true := by rfl) (hks : (backToKw pos (keywordEach kws X.env)).filterMap (·.1) = ks := by rfl)
    (hdb : (x == ("__debug__" : Str)) = false := by decide) (he : starEach (e :: es) X.env = (false, eval e X.env) :: starEach es X.env := by rfl)
    (hpl : ((backTo pos (starEach (e :: es) X.env)).any (·.1) || (backToKw pos (keywordEach kws X.env)).any (·.1.isNone)) = false := by rfl) :
    FE X Z W (.Call (.Name x p) (e :: es) kws pos) (eCallK F a b idx fa fk) := by
  refine ⟨fun pins s σ H Q I h => ?_⟩
  obtain ⟨ρ, G, env, S, e, h⟩ := h
  refine wpAny_Call_Name_kw (ld_glob I hg hm ?_ hdb)
  refine PySem.W.callWith_KW (h₀ := X.base) I.ok.mod.kin hk hall (thn (ha.run pos pins s σ H _ I (step (rel := RUs (kz X Z)) S e h)) fun us0 s1 ⟨vs, H1, I1, r, ρ1, G1, us, p1, st1, S1, e1, r1, h1⟩ => ?_) hpl he
  refine thn (hkw.run pos pins s1 σ H1 _ I1 (step (rel := RUs (kz X Z)) S1 e1 h1)) fun ws s2 ⟨zs, H2, I2, rz, ρ2, G2, us2, p2, st2, S2, e2, r2, h2⟩ => ⟨I2.kIn, ?_⟩
  rw [hks]
  refine run_fnkSD Fn hr hb (passesAt_tk tk σ) I2 r rz ?_
  have rr : RUs (kz X Z) ρ2 H2 (gK a b idx us us2) (gK a b idx vs zs) := gK_rel (r1.mono p2 st2) r2
  refine ⟨?_, Z, ρ2, G2, _, hZ, S2, rr, h2⟩
  rw [← rr.len]
  by_cases hl : (gK a b idx us us2).length = ps.length
  · exact hl
  · rw [ar _ G2 hl] at h2; exact h2.elim
end
theorem kbinds_of {K : PySem.W.Frag} {x qual : Str} {params : Arguments} {body : List Stmt} {scope : Scope} {kws : List (Str × V)} {f : Addr} {fd : FuncData} {ps ks : List Str} (F : FunD K x qual params body scope [] kws f fd) (a b : Nat) (idx : List Nat) (ne : ps.length ≠ 0)
    (h : ∀ (kV doc pm : Value) (an : Option Addr) (cdv ct : Value) (us ws : List Value), us.length = a → ws.length = b → bindArgs (PySem.W.fnOf x qual params body scope .none kV doc pm an cdv ct) ⟨us, ks.zip ws⟩ = pure (ps.zip (pickL idx (us ++ ws)))) : KBinds K fd ps ks (gK a b idx) (gK a b idx) := by
  obtain ⟨oc, od, dV, kV, doc, pm, an, cdv, ct, osl, rfl, lk, hcd, hD, _⟩ := F.ex
  rcases hD with ⟨_, rfl⟩ | ⟨e, _⟩
  · refine ⟨fun s us ws _ hl => ?_, fun r q => gK_vals r q⟩
    unfold gK at hl ⊢
    by_cases hh : us.length = a ∧ ws.length = b
    · rw [if_pos hh]
      exact .of_eq (h _ _ _ _ _ _ us ws hh.1 hh.2)
    · rw [if_neg hh] at hl
      exact absurd hl.symm ne
  · exact absurd rfl e
end FL

set_option Elab.async false
set_option linter.all false
set_option maxRecDepth 100000
set_option maxHeartbeats 4000000
/-! several except clauses, with or without a name: the two rules of TryMany and Exc (ps_try_many, ps_try_as) in one -/
namespace L2
open PySem PySem.Spec PyProof.Rows
abbrev Sui := Addr → Value → Option Addr → TS
def D_un (D : Ends) (i : Nat) : Ends := { nx := fun σ' H' => D.nx (σ'.set i none) H', rt := D.rt, bk := fun σ' H' => D.bk (σ'.set i none) H', ct := fun σ' H' => D.ct (σ'.set i none) H' }
def wManyA (K : PySem.W.Frag) (Wout : WX) (D : Ends) : List (Value × Option Nat × Sui) → WX
  | [] => Wout
  | (c, none, ts) :: r => fun cls d σ H => ∃ b, PySem.W.exmOne K cls c = some b ∧ (b = true → ∀ a, H a = none → ts a cls d D σ H) ∧ (b = false → wManyA K Wout D r cls d σ H)
  | (c, some i, ts) :: r => fun cls d σ H => ∃ b, PySem.W.exmOne K cls c = some b ∧ (b = true → ∀ a, H a = none → ts a cls d (D_un D i) (σ.set i (some (.ref a))) H) ∧ (b = false → wManyA K Wout D r cls d σ H)
inductive HdsA (X : Cx) : List ExceptHandler → List (Value × Option Nat × Sui) → Prop
  | nil : HdsA X [] []
  | cons {x : Str} {c : Value} {ts : Sui} {b₀ : Stmt} {suite : List Stmt} {np pos' : Pos} {hds : List ExceptHandler} {l : List (Value × Option Nat × Sui)} (hc : Names X x c)
      (hsu : ∀ (a : Addr) (oe : Obj) (cls : Value) (d : Option Addr) (pn : List (Addr × Obj)), Zc cls d oe → (∃ vs, oe.data = .fields vs) → PSs (X.suite a ((a, oe) :: pn)) (b₀ :: suite) (ts a cls d)) (r : HdsA X hds l) :
      HdsA X (.ExceptHandler (some (.Name x np)) none (b₀ :: suite) pos' :: hds) ((c, none, ts) :: l)
  | as {x n : Str} {i : Nat} {c : Value} {ts : Sui} {b₀ : Stmt} {suite : List Stmt} {np pos' : Pos} {hds : List ExceptHandler} {l : List (Value × Option Nat × Sui)} (hc : Names X x c) (hi : X.N[i]? = some n) (hln : X.env.kindOf n = some .local)
      (hsu : ∀ (a : Addr) (oe : Obj) (cls : Value) (d : Option Addr) (pn : List (Addr × Obj)), Zc cls d oe → (∃ vs, oe.data = .fields vs) → PSs (X.suite a ((a, oe) :: pn)) (b₀ :: suite) (ts a cls d)) (r : HdsA X hds l) :
      HdsA X (.ExceptHandler (some (.Name x np)) (some n) (b₀ :: suite) pos' :: hds) ((c, some i, ts) :: l)
section
variable {X : Cx} {body : List Stmt} {h₀ : ExceptHandler} {hds : List ExceptHandler} {l : List (Value × Option Nat × Sui)} {pos : Pos} {tb : WX → TS} {Wout : WX}
theorem ps_try_A (hs : X.stack = X.env :: X.outer) (hf : X.env.frame = some X.env.locals) (hN : X.N.Nodup) (tk : Takes X Wout)
    (hb : ∀ (W : WX) (pn : List (Addr × Obj)) (xe : Value → Shared → Prop), Takes (X.tr pn xe) W → PassesOwn (model X.prog X.w) X.A X.env xe → PSs (X.tr pn xe) body (tb W))
    (hh : HdsA X (h₀ :: hds) l) : PS X (.Try body (h₀ :: hds) [] [] pos) (fun D σ H => tb (wManyA X.K Wout D l) D σ H) := by
  refine ⟨fun pins s σ H D I h => ?_⟩
  have ok := I.ok
  have hfr : X.A.frames = some (X.env :: X.outer) := by rw [ok.frames, hs]
  refine wpAny_Try_except ?_
  refine wpAny_mono ((hb (wManyA X.K Wout D l) (X.pn ++ pins) (fun e s₁ => wpAny (model X.prog X.w) X.A (noteFrame e X.env) (fun _ s₂ => wpAny (model X.prog X.w) X.A (setFlight e none) (fun _ s₃ =>
    wpAny (model X.prog X.w) X.A (handleBy e X.env (h₀ :: hds)) (SP X pins D) X.xe s₃) X.xe s₂) X.xe s₁) (fun u s' xx => ?_) PassesOwn.looking).run [] s σ H D (I.toTry _) h) (fun f s1 hsp => ?_) (fun e s1 he => he)
  · obtain ⟨a, B, sI, pins', σ', H', cls, d, rfl, J', nb, up, sky, na, os, ag, w⟩ := xx
    have J : Inv X pins σ' H' sI := J'.ofTry ok
    have sky' : Sky B (X.env :: X.outer) a (Zc cls d) X.env.locals s'.heap := by rw [← hs]; exact sky
    show wpAny (model X.prog X.w) X.A (noteFrame (.ref a) X.env) _ _ _
    refine Sky.land Zc.steady hfr hf sky' fun h3 fl3 up3 => ?_
    have J3 : Inv X pins σ' H' { s' with heap := h3 } := J.landed nb fl3.1 (up.trans up3) os ag
    obtain ⟨oe3, vs3, he3, hz3, hd3⟩ := fl3.there
    have notFr : ∀ {h : Heap} {o : Obj} {vs : Array Value}, h.FunFrames B (X.env :: X.outer) → h.get? a = some o → o.data = .fields vs → a ∉ frs (X.env :: X.outer) := fun {h o vs} ff e dd hm => by
      obtain ⟨_, o', e', hnf⟩ := ff.mem hm
      rw [e] at e'; cases e'
      exact hnf _ dd
    have nfr := notFr fl3.2.2.1 he3 hd3
    have nL : a ≠ X.env.locals := fun z => nfr (List.mem_filterMap.mpr ⟨X.env, List.mem_cons_self, by rw [hf, z]⟩)
    have nF : a ∉ X.fs := fun hm => by
      obtain ⟨e, he, q⟩ := List.mem_filterMap.mp hm
      exact nfr (List.mem_filterMap.mpr ⟨e, List.mem_cons_of_mem _ he, q⟩)
    have S3 := J3.suite he3 hd3 na nL nF
    have LT : PySem.W.Looks (model X.prog X.w) h3 (typeOf (.ref a)) cls := fun A Q E s k q => wpAny_typeOf_ref (k _ _ he3) (by rw [hz3.1]; exact q)
    have go : ∀ {hds' : List ExceptHandler} {l' : List (Value × Option Nat × Sui)}, HdsA X hds' l' → wManyA X.K Wout D l' cls d σ' H' →
        wpAny (model X.prog X.w) X.A (handleBy (.ref a) X.env hds') (SP X pins D) X.xe { s' with heap := h3 } := by
      intro hds' l' hk
      induction hk with
      | nil =>
        intro w
        refine wpAny_handleBy_nil ?_
        obtain ⟨k1, k2, k3, oe, vs, T, oT, ts', he, hz, hd, h1, hr⟩ := id fl3
        unfold PySem.passOn
        refine wpAny_bind (wpAny_field he hd h1 ?_)
        rw [if_neg (show ¬ ((Value.ref T == Value.none) = true) from by simp)]
        have fin : wpAny (model X.prog X.w) X.A (setFlight (.ref a) X.env.frame) (fun _ s4 => wpAny (model X.prog X.w) X.A (throw (.ref a) : Sem Flow) (SP X pins D) X.xe s4) X.xe { s' with heap := h3 } := by
          rw [hf]
          refine HandSPX.setFlight_upZ fl3 fun h4 hh4 up4 => wpAny_throw (tk _ _ ?_)
          exact ⟨a, B, sI, pins, σ', H', cls, d, rfl, J, nb, (up.trans up3).trans up4, .inr (.inr (by rw [hs]; exact hh4)), na, os, ag, w⟩
        first
          | exact wpAny_bind (wpAny_pure (wpAny_bind fin))
          | exact wpAny_bind fin
      | @cons x c ts b₀ suite np pos' hds2 l2 hc hsu r ih =>
        intro w
        obtain ⟨b, hb1, hyes, hno⟩ := w
        refine wpAny_handleBy_cons (codeAny_handlers_test ?_) (by intro q; cases q)
        have LM := PySem.W.exm_one (M := model X.prog X.w) (J3.kIn) LT hb1
        have test : ∀ {Q : Value → Shared → Prop} {E : Value → Shared → Prop}, Q c { s' with heap := h3 } → wpAny (model X.prog X.w) (X.A.mark (some (.ref a))) (eval (.Name x np) X.env) Q E { s' with heap := h3 } := fun {Q E} q => by
          obtain ⟨hg, hdbg, hm | ⟨hm, hv, hnn⟩⟩ := hc
          · exact ld_glob (X := X.suite a ((a, oe3) :: (X.pn ++ pins))) S3 hg hm q hdbg
          · exact ld_blt (X := X.suite a ((a, oe3) :: (X.pn ++ pins))) S3 hg hm hv q hnn hdbg
        refine test (LM.here ?_)
        cases b with
        | true =>
          refine codeAny_handlers_suite ?_
          refine HandSPX.lands_againZ fl3 fun h4 fl4 up4 => ?_
          have J4 : Inv X pins σ' H' { s' with heap := h4 } := J.landed nb fl4.1 ((up.trans up3).trans up4) os ag
          obtain ⟨oe4, vs4, he4, hz4, hd4⟩ := fl4.there
          have S4 := J4.suite he4 hd4 na nL nF
          refine wpAny_mono ((hsu a oe4 cls d (X.pn ++ pins) hz4 ⟨_, hd4⟩).run [] _ _ H' _ S4 (hyes rfl a na)) (fun f s6 hsp => ?_) (fun _ _ z => False.elim z)
          cases f with
          | next =>
            obtain ⟨σ6, H6, S6, q6⟩ := hsp
            exact ⟨_, _, S6.unsuite ok, q6⟩
          | brk =>
            obtain ⟨σ6, H6, S6, q6⟩ := hsp
            exact ⟨_, _, S6.unsuite ok, q6⟩
          | cont =>
            obtain ⟨σ6, H6, S6, q6⟩ := hsp
            exact ⟨_, _, S6.unsuite ok, q6⟩
          | ret u =>
            obtain ⟨v6, σ6, H6, S6, r6, q6⟩ := hsp
            exact ⟨_, _, _, S6.unsuite ok, r6, q6⟩
        | false =>
          show wpAny _ X.A (handleBy (.ref a) X.env hds2) _ _ _
          exact ih (hno rfl)
      | @as x n i c ts b₀ suite np pos' hds2 l2 hc hi hln hsu r ih =>
        intro w
        obtain ⟨b, hb1, hyes, hno⟩ := w
        refine wpAny_handleBy_cons (codeAny_handlers_test ?_) (by intro q; cases q)
        have hloc : Loc X.env.scope n := .inl hln
        have LM := PySem.W.exm_one (M := model X.prog X.w) (J3.kIn) LT hb1
        have test : ∀ {Q : Value → Shared → Prop} {E : Value → Shared → Prop}, Q c { s' with heap := h3 } → wpAny (model X.prog X.w) (X.A.mark (some (.ref a))) (eval (.Name x np) X.env) Q E { s' with heap := h3 } := fun {Q E} q => by
          obtain ⟨hg, hdbg, hm | ⟨hm, hv, hnn⟩⟩ := hc
          · exact ld_glob (X := X.suite a ((a, oe3) :: (X.pn ++ pins))) S3 hg hm q hdbg
          · exact ld_blt (X := X.suite a ((a, oe3) :: (X.pn ++ pins))) S3 hg hm hv q hnn hdbg
        refine test (LM.here ?_)
        cases b with
        | true =>
          refine codeAny_handlers_suite_as ?_
          refine HandSPX.lands_againZ fl3 fun h4 fl4 up4 => ?_
          have J4 : Inv X pins σ' H' { s' with heap := h4 } := J.landed nb fl4.1 ((up.trans up3).trans up4) os ag
          obtain ⟨oe4, vs4, he4, hz4, hd4⟩ := fl4.there
          have S4 := J4.suite he4 hd4 na nL nF
          refine store_ok (X := X.suite a ((a, oe4) :: (X.pn ++ pins))) (v := .ref a) S4 hN hi hloc rfl (fun s5 S5 => ?_) (.inr hln)
          refine wpAny_mono ((hsu a oe4 cls d (X.pn ++ pins) hz4 ⟨_, hd4⟩).run [] s5 _ H' _ S5 (hyes rfl a na)) (fun f s6 hsp => ?_) (fun _ _ z => False.elim z)
          have end_ : ∀ {σ6 : St} {H6 : Hp} {Q : Shared → Prop}, Inv (X.suite a ((a, oe4) :: (X.pn ++ pins))) [] σ6 H6 s6 → (∀ s7, Inv X pins (σ6.set i none) H6 s7 → Q s7) →
              wpAny (model X.prog X.w) X.A (do bindName X.env n .none; unbindBehindTheSuite X.env n pos') (fun _ s7 => Q s7) X.xe s6 := fun {σ6 H6 Q} S6 hq => gone_ok (S6.unsuite ok) hN hi hln hq
          cases f with
          | next =>
            obtain ⟨σ6, H6, S6, q6⟩ := hsp
            exact end_ S6 fun s7 J7 => ⟨_, _, J7, q6⟩
          | brk =>
            obtain ⟨σ6, H6, S6, q6⟩ := hsp
            exact end_ S6 fun s7 J7 => ⟨_, _, J7, q6⟩
          | cont =>
            obtain ⟨σ6, H6, S6, q6⟩ := hsp
            exact end_ S6 fun s7 J7 => ⟨_, _, J7, q6⟩
          | ret u =>
            obtain ⟨v6, σ6, H6, S6, r6, q6⟩ := hsp
            exact end_ S6 fun s7 J7 => ⟨_, _, _, J7, r6, q6⟩
        | false =>
          show wpAny _ X.A (handleBy (.ref a) X.env hds2) _ _ _
          exact ih (hno rfl)
    exact go hh w
  · cases f with
    | next =>
      obtain ⟨σ', H', J', q⟩ := hsp
      exact wpAny_execs_nil ⟨σ', H', J'.ofTry ok, q⟩
    | brk =>
      obtain ⟨σ', H', J', q⟩ := hsp
      exact ⟨σ', H', J'.ofTry ok, q⟩
    | cont =>
      obtain ⟨σ', H', J', q⟩ := hsp
      exact ⟨σ', H', J'.ofTry ok, q⟩
    | ret u =>
      obtain ⟨v, σ', H', J', r, q⟩ := hsp
      exact ⟨v, σ', H', J'.ofTry ok, r, q⟩
end
/-! the facts of a class of errors, by a look that computes -/
def oexB (K : PySem.W.Frag) (C : Addr) : Bool := (match K.lookup C with
  | some ⟨.type "type", _, .cls cd, sl⟩ => (match cd.mro, sl.toList with
    | .ref C' :: bm, [_, _, _, _, some (.builtin n), _] => C' == C && n == "ValueError.__new__" && !cd.hasDel && cd.hasDict && PySem.HandSPX.refsVE bm
    | _, _ => false)
  | _ => false) && (decide (PySem.W.findIn K (.ref C) "__setattr__" = some (some (.builtin "object.__setattr__"))) && (decide (PySem.W.subIn K (.ref C) (.type "BaseException") = some true) && (decide (PySem.W.typeIn K (.ref C) = some (.type "type")) && PySem.W.keepIn K (.ref C))))
theorem oexB_ok {K : PySem.W.Frag} {C : Addr} (h : oexB K C = true) : OexC K C := by
  unfold oexB at h
  rw [Bool.and_eq_true, Bool.and_eq_true, Bool.and_eq_true, Bool.and_eq_true] at h
  obtain ⟨q, h1, h2, h3, h4⟩ := h
  refine ⟨?_, of_decide_eq_true h1, of_decide_eq_true h2, of_decide_eq_true h3, h4⟩
  split at q
  · rename_i dd cd sl ho
    split at q
    · rename_i C' bm k0 k1 k2 k3 n k5 hm hs
      simp only [Bool.and_eq_true, beq_iff_eq, Bool.not_eq_true'] at q
      obtain ⟨⟨⟨⟨rfl, rfl⟩, hdel⟩, hhd⟩, ht⟩ := q
      obtain ⟨nm, bs, mro, ns, qn, hd, sn, sub, ab, col, del⟩ := cd
      dsimp only at hm hdel hhd
      subst hm hdel hhd
      have hsl : sl = #[k0, k1, k2, k3, some (.builtin "ValueError.__new__"), k5] := by
        obtain ⟨l⟩ := sl
        simp only at hs
        rw [hs]
      subst hsl
      exact ⟨nm, qn, ns, bs, bm, sn, sub, ab, col, dd, k0, k1, k2, k3, k5, ho, ht⟩
    · cases q
  · cases q
end L2

set_option Elab.async false
set_option linter.all false
set_option maxRecDepth 100000
set_option maxHeartbeats 4000000
set_option autoImplicit false
namespace FL
open PySem PySem.Spec L2

/-! ### raise C(e, ..), C a class of errors whose __init__ stores its arguments -/
/-- what the written part says of such a class: its name, its fields -/
structure ExK (K : PySem.W.Frag) (mg : Str → Option Value) (c : Str) (fI : Addr) (fs : List Str) : Prop where
  T : OexC K (He.ga K c)
  iC : PySem.W.findIn K (.ref (He.ga K c)) "__init__" = some (some (.ref fI))
  tI : PySem.W.typeIn K (.ref fI) = some (.type "function")
  no : ∀ f ∈ fs, PySem.W.findIn K (.ref (He.ga K c)) f = some none
  gC : mg c = some (.ref (He.ga K c))
/-- __init__'s promise, one field, two -/
def spI (K : PySem.W.Frag) (C : Addr) (fs : List Str) : Sp := fun vs H Q _ => ∃ (a : Addr) (ws : List V), vs = .ref a :: ws ∧ ws.length = fs.length ∧ H a = some (exo a C none) ∧ OexC K C ∧
  (∀ f ∈ fs, PySem.W.findIn K (.ref C) f = some none) ∧ ∀ dx, H dx = none → dx ≠ a → Q .non (upd (upd (upd H dx (exd dx [])) a (exo a C (some dx))) dx (exd dx (fs.zip ws).reverse))
section
variable {P : Program} {w : World} {K : PySem.W.Frag} {mg : Str → Option Value} {base : Heap}
theorem upd_mid {H : Hp} {a dx : Addr} {o1 o2 o3 : HO} (ne : dx ≠ a) : upd (upd (upd H dx o1) a o2) dx o3 = upd (upd H dx o3) a o2 := by
  funext b
  unfold upd
  by_cases h1 : b = dx
  · subst h1
    rw [if_pos rfl, if_neg ne, if_pos rfl]
  · rw [if_neg h1]
    by_cases h2 : b = a
    · rw [if_pos h2, if_pos h2]
    · rw [if_neg h2, if_neg h2, if_neg h1, if_neg h1]
theorem okI1 {x qual f : Str} {params : Arguments} {body : List Stmt} {scope : Scope} {C fI : Addr} {fd : FuncData} {N : List Str} (F : FunD K x qual params body scope [] [] fI fd) (S : FnScope N ["self", f] scope) (hN : N.length = 2)
    (hb : ∀ (cdv : Value) (A : Around) (outer : List Env) (s : Shared) (H : Hp) (E : XK), PSs (cxOf (CX P w) P w K mg base N qual scope fI cdv A outer s H E) body (tOst K f (tVar 0) (tVar 1))) : FnOk P w K mg base (CX P w) 1 fI fd ["self", f] (spI K C [f]) := by
  refine F.ok S (fun vs H Q E h => ?_) fun cdv A outer s H vs Q E hr h => ?_
  · obtain ⟨a, ws, rfl, hl, _⟩ := h
    simp at hl ⊢; exact hl
  · obtain ⟨a, ws, rfl, hl, ha, T, no, q⟩ := h
    obtain ⟨y, rfl⟩ : ∃ y, ws = [y] := by
      cases ws with
      | nil => simp at hl
      | cons y r =>
        cases r with
        | nil => exact ⟨y, rfl⟩
        | cons _ _ => simp at hl
    refine ⟨_, hb cdv A outer s H E, ?_⟩
    have e : L2.start N [.ref a, y] = [some (.ref a), some y] := by simp [L2.start, hN]
    rw [e]
    refine ⟨y, rfl, .ref a, rfl, a, C, rfl, T, no f (by simp), .inl ⟨ha, fun dx n ne => ?_⟩⟩
    have z := q dx n ne
    rw [upd_mid ne] at z
    exact z
theorem okI2 {x qual f g : Str} {params : Arguments} {body : List Stmt} {scope : Scope} {C fI : Addr} {fd : FuncData} {N : List Str} (F : FunD K x qual params body scope [] [] fI fd) (S : FnScope N ["self", f, g] scope) (hN : N.length = 3)
    (hb : ∀ (cdv : Value) (A : Around) (outer : List Env) (s : Shared) (H : Hp) (E : XK), PSs (cxOf (CX P w) P w K mg base N qual scope fI cdv A outer s H E) body (tSeq (tOst K f (tVar 0) (tVar 1)) (tOst K g (tVar 0) (tVar 2)))) : FnOk P w K mg base (CX P w) 1 fI fd ["self", f, g] (spI K C [f, g]) := by
  refine F.ok S (fun vs H Q E h => ?_) fun cdv A outer s H vs Q E hr h => ?_
  · obtain ⟨a, ws, rfl, hl, _⟩ := h
    simp at hl ⊢; exact hl
  · obtain ⟨a, ws, rfl, hl, ha, T, no, q⟩ := h
    obtain ⟨y, y', rfl⟩ : ∃ y y', ws = [y, y'] := by
      match ws, hl with
      | [y, y'], _ => exact ⟨y, y', rfl⟩
    refine ⟨_, hb cdv A outer s H E, ?_⟩
    have e : L2.start N [.ref a, y, y'] = [some (.ref a), some y, some y'] := by simp [L2.start, hN]
    rw [e]
    refine ⟨y, rfl, .ref a, rfl, a, C, rfl, T, no f (by simp), .inl ⟨ha, fun dx n ne => ?_⟩⟩
    refine ⟨y', rfl, .ref a, rfl, a, C, rfl, T, no g (by simp), .inr ⟨dx, [(f, y)], upd_same, ?_, by show 1 ≤ 900; decide, ?_⟩⟩
    · rw [upd_ne ne, upd_same]
    · have z := q dx n ne
      have e2 : upd (upd (upd H dx (exd dx [(f, y)])) a (exo a C (some dx))) dx (exd dx [(g, y'), (f, y)]) = upd (upd (upd H dx (exd dx [])) a (exo a C (some dx))) dx (exd dx (([f, g].zip [y, y']).reverse)) := by
        rw [upd_mid ne, upd_mid ne]; rfl
      rw [e2]
      exact z
end
def sRaise (c : Str) (fs : List Str) (fa : Ev → Gp → R (List U)) : Ev → Gp → SR := fun env G => (fa env G).andThen env fun us G1 => if us.length = fs.length then .exc c (fs.zip us).reverse env G1 else .bad
section
variable {X : Cx} {Z : ZZ X.K} {W : WX} {c : Str} {fI : Addr} {fs : List Str} {fd : FuncData} {ps : List Str} {p pos pos2 : Pos} {e : Expr} {es : List Expr} {fa : Ev → Gp → R (List U)} {k : Nat}
theorem zip_rel {K : KZ} {ρ : List Addr} {H : Hp} (fs : List Str) {us : List U} {vs : List V} (r : RUs K ρ H us vs) (hl : us.length = fs.length) : RFs K ρ H (fs.zip us).reverse (fs.zip vs).reverse := by
  have e1 : (fs.zip us).map (·.1) = fs := List.map_fst_zip (by omega)
  have e2 : (fs.zip vs).map (·.1) = fs := List.map_fst_zip (by rw [← r.len]; omega)
  have e3 : (fs.zip us).map (·.2) = us := List.map_snd_zip (by omega)
  have e4 : (fs.zip vs).map (·.2) = vs := List.map_snd_zip (by rw [← r.len]; omega)
  refine ⟨by rw [List.map_reverse, List.map_reverse, e1, e2], ?_⟩
  rw [List.map_reverse, List.map_reverse, e3, e4]
  have rev : ∀ {us : List U} {vs : List V}, RUs K ρ H us vs → RUs K ρ H us.reverse vs.reverse := by
    intro us
    induction us with
    | nil => intro vs r; cases r; exact .nil
    | cons x xs ih =>
      intro vs r
      cases r with
      | cons h t => rw [List.reverse_cons, List.reverse_cons]; exact (ih t).append (.cons h .nil)
  exact rev r
theorem fraise (E : ExK X.K X.mg c fI fs) (F1 : FnOk X.prog X.w X.K X.mg X.base (CX X.prog X.w) 1 fI fd ps (spI X.K (He.ga X.K c) fs)) (hfs : fs.length ≤ 1000) (hb : Binds X.K fd ps []) (hr : Room 2 X.A) (hc : X.calm = true) (tk : Takes X W) (ha : FA X Z W (e :: es) fa) (hg : Gl X c := by rfl)
    (hdb : (c == ("__debug__" : Str)) = false := by decide) (he : starEach (e :: es) X.env = (false, eval e X.env) :: starEach es X.env := by rfl) (hpl : (backTo pos (starEach es X.env)).any (·.1) = false := by rfl) :
    FS X Z W (.Raise (some (.Call (.Name c p) (e :: es) [] pos)) none pos2) (sRaise c fs fa) := by
  refine PSimp (ps_raise hc tk (pmk_oex (dvs := []) (ds := []) E.T E.iC E.tI F1 hr hb .nil (passes_call tk fun _ _ _ _ h => h.elim) hg E.gC ha hdb he hpl)) fun D σ H ⟨ρ, G, env, S, e, h⟩ => ?_
  refine tG_mono (stepS (rel := RUs (kz X Z)) S e h) fun vs H1 ⟨ρ1, G1, us, p1, s1, S1, e1, r1, h1⟩ => ?_
  by_cases hl : us.length = fs.length
  · rw [if_pos hl] at h1
    refine ⟨by rw [← r1.len, hl]; exact hfs, fun a hn => ?_⟩
    rw [List.append_nil]
    have hda : ∀ dx : Addr, upd H1 a (exo a (He.ga X.K c) none) dx = none → dx ≠ a → H1 dx = none := fun dx q ne => by rw [upd_ne ne] at q; exact q
    refine ⟨a, vs, rfl, by rw [← r1.len]; exact hl, upd_same, E.T, E.no, fun dx n ne => ⟨rfl, dx, (fs.zip vs).reverse, ?_, upd_same, hda dx n ne, ?_⟩⟩
    · rw [upd_ne (Ne.symm ne), upd_same]
    · have hdn := hda dx n ne
      have eH : upd (del (upd (upd (upd (upd H1 a (exo a (He.ga X.K c) none)) dx (exd dx [])) a (exo a (He.ga X.K c) (some dx))) dx (exd dx (fs.zip vs).reverse)) a) dx (.xd (fs.zip vs).reverse) = upd H1 dx (.xd (fs.zip vs).reverse) := by
        funext b
        unfold upd del
        by_cases h1 : b = dx
        · simp [h1]
        · by_cases h2 : b = a
          · subst h2; simp [h1, hn]
          · simp [h1, h2]
      rw [eH]
      have st : Stb (kz X Z) H1 (upd H1 dx (.xd (fs.zip vs).reverse)) := stb_new hdn
      exact h1 σ dx _ ρ1 _ pre_refl st (S1.tup hdn) (e1.mono pre_refl st) upd_same ((zip_rel fs r1 hl).mono pre_refl st)
  · rw [if_neg hl] at h1; exact h1.elim
end

/-! ### try: body / except ..: suites -/
/-- what a clause does: the class, the name's slot, the suite by the error's class and fields -/
abbrev Hd := Str × Option Nat × (Str → List (Str × U) → Ev → Gp → SR)
def unE (i : Nat) (r : SR) : SR := match r with
  | .nx e G => .nx (e.set i none) G
  | .brk e G => .brk (e.set i none) G
  | .ct e G => .ct (e.set i none) G
  | .exc _ _ _ _ => .bad
  | r => r
def noExc (r : SR) : SR := match r with
  | .exc _ _ _ _ => .bad
  | r => r
def goH (as : List Str) (c : Str) (fs : List (Str × U)) (env : Ev) (G : Gp) : List Hd → SR
  | [] => .exc c fs env G
  | (h, none, s) :: r => if as.contains h = true then noExc (s c fs env G) else goH as c fs env G r
  | (h, some i, s) :: r => if as.contains h = true then unE i (s c fs (env.set i none) G) else goH as c fs env G r
def sTry (t : List (Str × List Str)) (body : Ev → Gp → SR) (hs : List Hd) : Ev → Gp → SR := fun env G => match body env G with
  | .exc c fs env' G' => match t.lookup c with
    | some as => goH as c fs env' G' hs
    | none => .bad
  | r => r
/-- the caught error: its class, where its fields stand -/
def zE {K : PySem.W.Frag} (Z : ZZ K) (er : Option (Nat × Addr)) (fs : List (Str × U)) (dd : Addr) : ZZ K where
  er := er
  P := fun ρ H => Z.P ρ H ∧ ∃ vfs, H dd = some (.xd vfs) ∧ RFs ⟨K, Z⟩ ρ H fs vfs
  st := fun ρ ρ' H H' p k ⟨h, vfs, e, r⟩ => ⟨Z.st ρ ρ' H H' p k h, vfs, k.xd _ _ e, RFs.mono (K := ⟨K, Z⟩) p k r⟩
section
variable {K : PySem.W.Frag} {Z Z' : ZZ K} {ρ : List Addr} {H : Hp}
mutual
theorem RU.zc : ∀ {u : U} {v : V}, RU ⟨K, Z⟩ ρ H u v → RU ⟨K, Z'⟩ ρ H u v
  | _, _, .non => .non
  | _, _, .bl b => .bl b
  | _, _, .int i => .int i
  | _, _, .str x => .str x
  | _, _, .ref h => .ref h
  | _, _, .tup h r => .tup h (RUs.zc r)
  | _, _, .rl h r => .rl h (RUs.zc r)
theorem RUs.zc : ∀ {u : List U} {v : List V}, RUs ⟨K, Z⟩ ρ H u v → RUs ⟨K, Z'⟩ ρ H u v
  | _, _, .nil => .nil
  | _, _, .cons h t => .cons (RU.zc h) (RUs.zc t)
end
theorem REq0.zc : ∀ {env : Ev} {σ : St}, REq0 ⟨K, Z⟩ ρ H env σ → REq0 ⟨K, Z'⟩ ρ H env σ
  | [], [], _ => trivial
  | none :: us, v :: vs, h => ⟨trivial, REq0.zc h.2⟩
  | some x :: us, some y :: vs, h => ⟨RU.zc h.1, REq0.zc h.2⟩
  | some x :: us, none :: vs, h => h.1.elim
theorem RFs.zc {fs : List (Str × U)} {vfs : List (Str × V)} (h : RFs ⟨K, Z⟩ ρ H fs vfs) : RFs ⟨K, Z'⟩ ρ H fs vfs := ⟨h.1, RUs.zc h.2⟩
theorem RO.zc {o : OU} {ho : HO} (h : RO ⟨K, Z⟩ ρ H o ho) : RO ⟨K, Z'⟩ ρ H o ho := by
  cases o <;> cases ho <;> first | exact h.elim | exact RUs.zc h | exact ⟨h.1, RFs.zc h.2⟩
theorem Sim.zc {G : Gp} (S : Sim ⟨K, Z⟩ ρ G H) (z : Z'.P ρ H) : Sim ⟨K, Z'⟩ ρ G H := ⟨S.len, S.nd, fun l o a h1 h2 => by
  obtain ⟨ho, e, r⟩ := S.ob l o a h1 h2
  exact ⟨ho, e, RO.zc r⟩, z⟩
end
theorem set_none_any {K : KZ} {ρ : List Addr} {H : Hp} (x : Option V) : ∀ {env : Ev} {σ : St}, REq0 K ρ H env σ → ∀ i : Nat, REq0 K ρ H (env.set i none) (σ.set i x)
  | [], [], _, _ => trivial
  | none :: us, v :: vs, h, 0 => ⟨trivial, h.2⟩
  | some _ :: us, some _ :: vs, h, 0 => ⟨trivial, h.2⟩
  | some x :: us, none :: vs, h, _ => h.1.elim
  | none :: us, v :: vs, h, i + 1 => ⟨h.1, set_none_any x h.2 i⟩
  | some _ :: us, some _ :: vs, h, i + 1 => ⟨h.1, set_none_any x h.2 i⟩
section
variable {X : Cx} {Z : ZZ X.K} {W : WX}
/-- the context of a suite: a the error, oe its object, of the class c; its dict at dd -/
abbrev SuX (X : Cx) (a : Addr) (oe : Obj) (pn : List (Addr × Obj)) : Cx := X.suite a ((a, oe) :: pn)
/-- the clauses' suites keep what their words tell -/
inductive FHs (X : Cx) (Z : ZZ X.K) (t : List (Str × List Str)) : List ExceptHandler → List Hd → Prop
  | nil : FHs X Z t [] []
  | cons {x : Str} {s : Str → List (Str × U) → Ev → Gp → SR} {b₀ : Stmt} {suite : List Stmt} {np pos' : Pos} {hds : List ExceptHandler} {l : List Hd} (hc : Names X x (.ref (He.ga X.K x))) (hx : ∀ c as, (c, as) ∈ t → PySem.W.exmOne X.K (.ref (He.ga X.K c)) (.ref (He.ga X.K x)) = some (as.contains x))
      (hsu : ∀ (a : Addr) (oe : Obj) (c : Str) (fs : List (Str × U)) (dd : Addr) (pn : List (Addr × Obj)), c ∈ t.map (·.1) → Zc (.ref (He.ga X.K c)) (some dd) oe → (∃ vs, oe.data = .fields vs) → FSs (SuX X a oe pn) (zE Z none fs dd) W0 (b₀ :: suite) (s c fs)) (r : FHs X Z t hds l) :
      FHs X Z t (.ExceptHandler (some (.Name x np)) none (b₀ :: suite) pos' :: hds) ((x, none, s) :: l)
  | as {x n : Str} {i : Nat} {s : Str → List (Str × U) → Ev → Gp → SR} {b₀ : Stmt} {suite : List Stmt} {np pos' : Pos} {hds : List ExceptHandler} {l : List Hd} (hc : Names X x (.ref (He.ga X.K x))) (hx : ∀ c as, (c, as) ∈ t → PySem.W.exmOne X.K (.ref (He.ga X.K c)) (.ref (He.ga X.K x)) = some (as.contains x))
      (hi : X.N[i]? = some n) (hln : X.env.kindOf n = some .local)
      (hsu : ∀ (a : Addr) (oe : Obj) (c : Str) (fs : List (Str × U)) (dd : Addr) (pn : List (Addr × Obj)), c ∈ t.map (·.1) → Zc (.ref (He.ga X.K c)) (some dd) oe → (∃ vs, oe.data = .fields vs) → FSs (SuX X a oe pn) (zE Z (some (i, a)) fs dd) W0 (b₀ :: suite) (s c fs)) (r : FHs X Z t hds l) :
      FHs X Z t (.ExceptHandler (some (.Name x np)) (some n) (b₀ :: suite) pos' :: hds) ((x, some i, s) :: l)
end
end FL

set_option Elab.async false
set_option linter.all false
set_option maxRecDepth 100000
set_option maxHeartbeats 4000000
set_option autoImplicit false
namespace FL
open PySem PySem.Spec L2

section
variable {X : Cx} {Z : ZZ X.K} {W : WX}
/-- what a suite wants: the error's class, dict and fields are known -/
def tsS (K : PySem.W.Frag) (Z : ZZ K) (t : List (Str × List Str)) (i : Option Nat) (s : Str → List (Str × U) → Ev → Gp → SR) : Sui := fun a cls d D σ H => ∃ c fs dd, cls = .ref (He.ga K c) ∧ d = some dd ∧ c ∈ t.map (·.1) ∧ tS ⟨K, zE Z (i.map fun i => (i, a)) fs dd⟩ W0 (s c fs) D σ H
def hdL (K : PySem.W.Frag) (Z : ZZ K) (t : List (Str × List Str)) : List Hd → List (Value × Option Nat × Sui)
  | [] => []
  | (x, i, s) :: r => (.ref (He.ga K x), i, tsS K Z t i s) :: hdL K Z t r
theorem hdsA_of {t : List (Str × List Str)} : ∀ {hds : List ExceptHandler} {l : List Hd}, FHs X Z t hds l → HdsA X hds (hdL X.K Z t l)
  | _, _, .nil => .nil
  | _, _, .cons hc hx hsu r => .cons hc (fun a oe cls d pn hz hf => ⟨fun pins s σ H D I h => by
      obtain ⟨c, fs, dd, rfl, rfl, hm, h⟩ := h
      exact (hsu a oe c fs dd pn hm hz hf).run pins s σ H D I h⟩) (hdsA_of r)
  | _, _, .as hc hx hi hln hsu r => .as hc hi hln (fun a oe cls d pn hz hf => ⟨fun pins s σ H D I h => by
      obtain ⟨c, fs, dd, rfl, rfl, hm, h⟩ := h
      exact (hsu a oe c fs dd pn hm hz hf).run pins s σ H D I h⟩) (hdsA_of r)
theorem sim_out {K : PySem.W.Frag} {Z : ZZ K} {er : Option (Nat × Addr)} {fs : List (Str × U)} {dd : Addr} {ρ : List Addr} {G : Gp} {H : Hp} (S : Sim ⟨K, zE Z er fs dd⟩ ρ G H) : Sim ⟨K, Z⟩ ρ G H := S.zc S.z.1
theorem req_out {K : PySem.W.Frag} {Z Z' : ZZ K} (hZ : Z.er = none) {ρ : List Addr} {H : Hp} {env : Ev} {σ : St} (e : REq ⟨K, Z'⟩ ρ H env σ) : REq ⟨K, Z⟩ ρ H env σ := ⟨e.1.zc, fun i a h => by have h : Z.er = some (i, a) := h; rw [hZ] at h; cases h⟩
theorem post_in {K : PySem.W.Frag} {Z : ZZ K} {er : Option (Nat × Addr)} {fs : List (Str × U)} {dd : Addr} (hZ : Z.er = none) {ρ : List Addr} {H : Hp} {r : SR} {D : Ends} {W : WX} (h : PostS ⟨K, Z⟩ ρ H (noExc r) D W) : PostS ⟨K, zE Z er fs dd⟩ ρ H r D W0 := by
  cases r with
  | nx e G => exact fun σ' ρ' H' p s S q => h σ' ρ' H' p s (sim_out S) (req_out hZ q)
  | brk e G => exact fun σ' ρ' H' p s S q => h σ' ρ' H' p s (sim_out S) (req_out hZ q)
  | ct e G => exact fun σ' ρ' H' p s S q => h σ' ρ' H' p s (sim_out S) (req_out hZ q)
  | ret u G => exact fun v ρ' H' p s S q => h v ρ' H' p s (sim_out S) q.zc
  | exc c fs e G => exact h.elim
  | bad => exact h
theorem post_in_as {K : PySem.W.Frag} {Z : ZZ K} {er : Option (Nat × Addr)} {fs : List (Str × U)} {dd : Addr} (hZ : Z.er = none) {ρ : List Addr} {H : Hp} {r : SR} {D : Ends} {W : WX} (i : Nat) (h : PostS ⟨K, Z⟩ ρ H (unE i r) D W) : PostS ⟨K, zE Z er fs dd⟩ ρ H r (D_un D i) W0 := by
  cases r with
  | nx e G => exact fun σ' ρ' H' p s S q => h _ ρ' H' p s (sim_out S) ((req_out hZ q).unset hZ i)
  | brk e G => exact fun σ' ρ' H' p s S q => h _ ρ' H' p s (sim_out S) ((req_out hZ q).unset hZ i)
  | ct e G => exact fun σ' ρ' H' p s S q => h _ ρ' H' p s (sim_out S) ((req_out hZ q).unset hZ i)
  | ret u G => exact fun v ρ' H' p s S q => h v ρ' H' p s (sim_out S) q.zc
  | exc c fs e G => exact h.elim
  | bad => exact h
theorem many_of {t : List (Str × List Str)} {c : Str} {as : List Str} {fs : List (Str × U)} {env : Ev} {G : Gp} {D : Ends} {ρ : List Addr} {H : Hp} {σ : St} {dd : Addr} {vfs : List (Str × V)} (hZ : Z.er = none) (hm : (c, as) ∈ t) (S : Sim (kz X Z) ρ G H) (e : REq (kz X Z) ρ H env σ) (ed : H dd = some (.xd vfs)) (rf : RFs (kz X Z) ρ H fs vfs) :
    ∀ {hds : List ExceptHandler} {l : List Hd}, FHs X Z t hds l → PostS (kz X Z) ρ H (goH as c fs env G l) D W → wManyA X.K W D (hdL X.K Z t l) (.ref (He.ga X.K c)) (some dd) σ H
  | _, _, .nil, h => h σ dd vfs ρ H pre_refl Stb.refl S e ed rf
  | _, _, .cons (x := x) (s := s) (l := l) hc hx hsu r, h => by
    have h : PostS (kz X Z) ρ H (if as.contains x = true then noExc (s c fs env G) else goH as c fs env G l) D W := h
    refine ⟨as.contains x, hx c as hm, fun hb a na => ?_, fun hb => ?_⟩
    · rw [if_pos hb] at h
      exact ⟨c, fs, dd, rfl, rfl, List.mem_map_of_mem (f := Prod.fst) hm, ρ, G, env, S.zc ⟨S.z, vfs, ed, rf⟩, ⟨e.1.zc, fun i a h => nomatch (show (none : Option (Nat × Addr)) = some (i, a) from h)⟩, post_in hZ h⟩
    · rw [if_neg (by rw [hb]; decide)] at h
      exact many_of hZ hm S e ed rf r h
  | _, _, .as (x := x) (i := i) (s := s) (l := l) hc hx hi hln hsu r, h => by
    have h : PostS (kz X Z) ρ H (if as.contains x = true then unE i (s c fs (env.set i none) G) else goH as c fs env G l) D W := h
    refine ⟨as.contains x, hx c as hm, fun hb a na => ?_, fun hb => ?_⟩
    · rw [if_pos hb] at h
      refine ⟨c, fs, dd, rfl, rfl, List.mem_map_of_mem (f := Prod.fst) hm, ρ, G, env.set i none, S.zc ⟨S.z, vfs, ed, rf⟩, ⟨(set_none_any _ e.1 i).zc, fun j b hj hn => ?_⟩, post_in_as hZ i h⟩
      have hj : some (i, a) = some (j, b) := hj
      cases hj
      have hl : i < env.length := by
        have := (List.getElem?_eq_some_iff.mp hn).1
        rwa [List.length_set] at this
      rw [List.getElem?_set_self (by rw [← e.1.len]; exact hl)]
    · rw [if_neg (by rw [hb]; decide)] at h
      exact many_of hZ hm S e ed rf r h
theorem mem_of_lookup' {t : List (Str × List Str)} {c : Str} {as : List Str} (h : t.lookup c = some as) : (c, as) ∈ t := PySem.mem_of_lookup h
theorem fstry {body : List Stmt} {h₀ : ExceptHandler} {hds : List ExceptHandler} {l : List Hd} {t : List (Str × List Str)} {g : Ev → Gp → SR} {pos : Pos} (hZ : Z.er = none) (hs : X.stack = X.env :: X.outer) (hf : X.env.frame = some X.env.locals) (hN : X.N.Nodup) (tk : Takes X W)
    (hb : ∀ (W' : WX) (pn : List (Addr × Obj)) (xe : Value → Shared → Prop), Takes (X.tr pn xe) W' → PassesOwn (model X.prog X.w) X.A X.env xe → FSs (X.tr pn xe) Z W' body g)
    (hh : FHs X Z t (h₀ :: hds) l) : FS X Z W (.Try body (h₀ :: hds) [] [] pos) (sTry t g l) := by
  refine PSimp (ps_try_A (tb := fun W' => tS (kz X Z) W' g) hs hf hN tk hb (hdsA_of hh)) fun D σ H ⟨ρ, G, env, S, e, h⟩ => ?_
  refine ⟨ρ, G, env, S, e, ?_⟩
  unfold sTry at h
  cases q : g env G with
  | nx e' G' => rw [q] at h; exact h
  | ret u G' => rw [q] at h; exact h
  | brk e' G' => rw [q] at h; exact h
  | ct e' G' => rw [q] at h; exact h
  | bad => rw [q] at h; exact h
  | exc c fs env' G' =>
    rw [q] at h
    simp only at h
    cases qt : t.lookup c with
    | none => rw [qt] at h; exact h.elim
    | some as =>
      rw [qt] at h
      intro σ' d vfs ρ' H' p s S' e' ed rf
      exact many_of hZ (mem_of_lookup' qt) S' e' ed rf hh (h.lift p s)
end
/-! ### the handled error: its fields, isinstance -/
def eXf (i : Nat) (fs : List (Str × U)) (f : Str) : Ev → Gp → R U := fun env G => match env[i]? with
  | some none => match fs.lookup f with
    | some u => .ok u G
    | none => .bad
  | _ => .bad
def eXis (i : Nat) (b : Bool) : Ev → Gp → R U := fun env G => match env[i]? with
  | some none => .ok (.bl b) G
  | _ => .bad
theorem lookup_rel {K : KZ} {ρ : List Addr} {H : Hp} {f : Str} {u : U} : ∀ {fs : List (Str × U)} {vfs : List (Str × V)}, RFs K ρ H fs vfs → fs.lookup f = some u → ∃ v, vfs.lookup f = some v ∧ RU K ρ H u v
  | [], _, _, h => by simp at h
  | (g, x) :: fs, [], r, h => by have := r.1; simp at this
  | (g, x) :: fs, (g', y) :: vfs, r, h => by
    obtain ⟨r1, r2⟩ := r
    simp only [List.map_cons, List.cons.injEq] at r1 r2
    obtain ⟨rfl, r1⟩ := r1
    cases r2 with
    | cons hx ht =>
      rw [List.lookup_cons] at h ⊢
      by_cases hg : (f == g) = true
      · rw [hg] at h ⊢
        cases h
        exact ⟨y, rfl, hx⟩
      · have hg : (f == g) = false := by simpa using hg
        rw [hg] at h ⊢
        exact lookup_rel (fs := fs) (vfs := vfs) ⟨r1, ht⟩ h
/-- what the written part says of a class of errors, for its fields and isinstance -/
structure XiK (K : PySem.W.Frag) (C : Addr) : Prop where
  xf : XfC K C
  ha : PySem.W.findIn K (.ref C) "__class__" = some (some (.builtin "object.__class__"))
  hn : PySem.W.specialIn K (.builtin "object.__class__") "__get__" = some (some (.builtin "getset_descriptor.__get__"))
  ht : PySem.W.takesIn K (.builtin "object.__class__") = some true
  hm : PySem.W.mroIn K C (.type "object") = some true
def xiB (K : PySem.W.Frag) (C : Addr) : Bool := xfB K C && (decide (PySem.W.findIn K (.ref C) "__class__" = some (some (.builtin "object.__class__"))) && (decide (PySem.W.specialIn K (.builtin "object.__class__") "__get__" = some (some (.builtin "getset_descriptor.__get__"))) &&
  (decide (PySem.W.takesIn K (.builtin "object.__class__") = some true) && decide (PySem.W.mroIn K C (.type "object") = some true))))
theorem xiB_ok {K : PySem.W.Frag} {C : Addr} (h : xiB K C = true) : XiK K C := by
  obtain ⟨h1, h⟩ := Bool.and_eq_true_iff.mp h
  obtain ⟨h2, h⟩ := Bool.and_eq_true_iff.mp h
  obtain ⟨h3, h⟩ := Bool.and_eq_true_iff.mp h
  obtain ⟨h4, h5⟩ := Bool.and_eq_true_iff.mp h
  exact ⟨xfB_ok h1, of_decide_eq_true h2, of_decide_eq_true h3, of_decide_eq_true h4, of_decide_eq_true h5⟩
section
variable {X : Cx} {Z : ZZ X.K} {W : WX} {a : Addr} {oe : Obj} {c : Str} {fs : List (Str × U)} {dd : Addr} {pn : List (Addr × Obj)} {i : Nat} {n f : Str} {p pos : Pos}
theorem tErr {Z : ZZ X.K} {W : WX} {σ : St} {H : Hp} {ρ : List Addr} {env : Ev} (e : REq (kz X (zE Z (some (i, a)) fs dd)) ρ H env σ) (hq : env[i]? = some none) : σ[i]? = some (some (.ref a)) := e.2 i a rfl hq
theorem fxf (T : XfC X.K (He.ga X.K c)) (hno : PySem.W.findIn X.K (.ref (He.ga X.K c)) f = some none) (hz : Zc (.ref (He.ga X.K c)) (some dd) oe) (hf : ∃ vs, oe.data = .fields vs)
    (hN : X.N[i]? = some n := by rfl) (hv : Vis X.env.scope n := by first | exact Or.inl rfl | exact Or.inr (Or.inl rfl) | exact Or.inr (Or.inr rfl)) (hd : (n == ("__debug__" : Str)) = false := by decide) (hcd : (n == ("__classdict__" : Str)) = false := by decide)
    (hb : attributeBase (.Name n p) f X.env (eval (.Name n p) X.env) = eval (.Name n p) X.env := by rfl) : FE (SuX X a oe pn) (zE Z (some (i, a)) fs dd) W (.Attribute (.Name n p) f pos) (eXf i fs f) := by
  refine PEimp (pe_xf (te := tVar i) T hno hz hf (pe_var (X := SuX X a oe pn) hN hv hd hcd) hb) fun σ H Q ⟨ρ, G, env, S, e, h⟩ => ?_
  unfold eXf at h
  cases q : env[i]? with
  | none => rw [q] at h; exact h.elim
  | some o =>
    cases o with
    | some _ => rw [q] at h; exact h.elim
    | none =>
      rw [q] at h
      simp only at h
      cases q2 : fs.lookup f with
      | none => rw [q2] at h; exact h.elim
      | some u =>
        rw [q2] at h
        obtain ⟨_, vfs, ed, rf⟩ := S.z
        obtain ⟨v, ev, rv⟩ := lookup_rel rf q2
        exact ⟨.ref a, e.2 i a rfl q, rfl, rfl, dd, vfs, v, rfl, ed, ev, h.end_ S rv.zc⟩
/-- isinstance of the handled error -/
def rXis (K : PySem.W.Frag) (a C dd : Addr) : List V → Hp → VK → Prop := fun xs H Q => (∃ vfs, H dd = some (.xd vfs)) ∧
  ((∃ (c : V) (cv : Value) (b : Bool), xs = [.ref a, c] ∧ ClsV c cv ∧ PySem.W.kitOne K (.ref C) cv = some b ∧ Q (.bl b) H) ∨
    (∃ (tp : Addr) (cs : List V) (us : List Value) (b : Bool), xs = [.ref a, .ref tp] ∧ H tp = some (.tup cs) ∧ Paired ClsV cs us ∧ PySem.W.kitAny K (.ref C) us = some b ∧ Q (.bl b) H))
theorem call_xis {C : Addr} (T : XiK X.K C) (hz : Zc (.ref C) (some dd) oe) (hf : ∃ vs, oe.data = .fields vs) : CallR (SuX X a oe pn) (.builtin "isinstance") (rXis X.K a C dd) := by
  intro pins s σ H xs us Q I r h
  obtain ⟨⟨vfs, ed⟩, h⟩ := h
  obtain ⟨hget, _⟩ := I.pin (a, oe) (List.mem_append.mpr (.inl List.mem_cons_self))
  obtain ⟨vs, hv⟩ := hf
  obtain ⟨mA, hns, _⟩ := (show ObjOk X.prog X.w H s.heap dd (.xd vfs) from I.hok dd _ ed)
  obtain ⟨od, ho, hl⟩ := lookIn_ns hns
  have J : PySem.W.InstAt s.heap a oe C (some od) := ⟨hget, hz.1, by unfold PySem.W.notCls; rw [hv] <;> rfl, by rw [hz.2]; exact ho⟩
  have hcl : (PySem.W.clsIn X.K C).isSome = true := by obtain ⟨cd, hc, _⟩ := PySem.W.any_some T.xf.hdC; rw [hc]; rfl
  have kit : PySem.W.KitX X.K (.ref a) (.ref C) (fun h => PySem.W.InstAt h a oe C (some od)) := PySem.W.kitx_exc hcl T.xf.ga T.xf.gg T.xf.exC T.ha T.hn T.ht T.hm
  rcases h with ⟨c, cv, b, rfl, hcv, e, q⟩ | ⟨tp, cs, ws, b, rfl, hT, k, e, q⟩
  · obtain ⟨u1, u2, rfl, r1, r2⟩ := vals2 r
    cases (show u1 = Value.ref a from r1)
    have ec := hcv.eq r2
    subst ec
    exact PySem.W.kia_one kit I.kIn J e (fun z => nomatch z) fun tk => ⟨.bl b, H, I.tok tk, rfl, q⟩
  · obtain ⟨u1, u2, rfl, r1, r2⟩ := vals2 r
    cases (show u1 = Value.ref a from r1)
    cases (show u2 = Value.ref tp from r2)
    obtain ⟨_, its, rv, o, h1, h2, n, h3⟩ := (show ObjOk X.prog X.w H s.heap tp (.tup cs) from I.hok tp _ hT)
    have e3 := ClsV.all k rv
    subst e3
    obtain ⟨oc, od', dt, sl⟩ := o
    simp only at h2 h3
    subst h2 h3
    exact PySem.W.kia_tup kit I.kIn J h1 e (fun z => nomatch z) fun tk => ⟨.bl b, H, I.tok tk, rfl, q⟩
/-- a row of classes, written -/
def tCs (vs : List V) : TA := fun _ H Q => Q vs H
theorem pcs_nil {X : Cx} : PA X [] (tCs []) := pa_nil
theorem pcs_cons {X : Cx} {e : Expr} {es : List Expr} {v : V} {vs : List V} (h : PE X e (tC v)) (t : PA X es (tCs vs)) (hs : starEach (e :: es) X.env = (false, eval e X.env) :: starEach es X.env := by rfl) : PA X (e :: es) (tCs (v :: vs)) := pa_cons h t hs
theorem fxis1 {t : Expr} {cv : V} {cval : Value} {b : Bool} {p2 : Pos} (T : XiK X.K (He.ga X.K c)) (hz : Zc (.ref (He.ga X.K c)) (some dd) oe) (hf : ∃ vs, oe.data = .fields vs) (hm : X.mg "isinstance" = none) (ht : PE (SuX X a oe pn) t (tC cv)) (hcv : ClsV cv cval) (hb : PySem.W.kitOne X.K (.ref (He.ga X.K c)) cval = some b)
    (hg : Gl X "isinstance" := by rfl) (hN : X.N[i]? = some n := by rfl) (hv : Vis X.env.scope n := by first | exact Or.inl rfl | exact Or.inr (Or.inl rfl) | exact Or.inr (Or.inr rfl)) (hd : (n == ("__debug__" : Str)) = false := by decide) (hcd : (n == ("__classdict__" : Str)) = false := by decide)
    (he : starEach [.Name n p, t] X.env = (false, eval (.Name n p) X.env) :: starEach [t] X.env := by rfl) (he2 : starEach [t] X.env = (false, eval t X.env) :: starEach [] X.env := by rfl) (hpl : (backTo pos (starEach [t] X.env)).any (·.1) = false := by rfl) :
    FE (SuX X a oe pn) (zE Z (some (i, a)) fs dd) W (.Call (.Name "isinstance" p2) [.Name n p, t] [] pos) (eXis i b) := by
  refine PEimp (pe_callB (t := tCons (tVar i) (tCs [cv])) (call_xis T hz hf) hg hm (by decide +kernel) (pa_cons (pe_var (X := SuX X a oe pn) hN hv hd hcd) (pcs_cons ht pcs_nil he2) he) (by decide) (by decide) he hpl) fun σ H Q ⟨ρ, G, env, S, e, h⟩ => ?_
  unfold eXis at h
  cases q : env[i]? with
  | none => rw [q] at h; exact h.elim
  | some o =>
    cases o with
    | some _ => rw [q] at h; exact h.elim
    | none =>
      rw [q] at h
      obtain ⟨_, vfs, ed, rf⟩ := S.z
      exact ⟨.ref a, e.2 i a rfl q, ⟨vfs, ed⟩, .inl ⟨cv, cval, b, rfl, hcv, hb, h.end_ S (.bl _)⟩⟩
theorem fxisT {ts : List Expr} {cvs : List V} {cvals : List Value} {b : Bool} {p2 p3 : Pos} {k3 : Nat} (T : XiK X.K (He.ga X.K c)) (hz : Zc (.ref (He.ga X.K c)) (some dd) oe) (hf : ∃ vs, oe.data = .fields vs) (hm : X.mg "isinstance" = none) (ht : PA (SuX X a oe pn) ts (tCs cvs)) (hcv : Paired ClsV cvs cvals) (hb : PySem.W.kitAny X.K (.ref (He.ga X.K c)) cvals = some b) (hl : cvs.length ≤ sizeLine)
    (hg : Gl X "isinstance" := by rfl) (hN : X.N[i]? = some n := by rfl) (hv : Vis X.env.scope n := by first | exact Or.inl rfl | exact Or.inr (Or.inl rfl) | exact Or.inr (Or.inr rfl)) (hd : (n == ("__debug__" : Str)) = false := by decide) (hcd : (n == ("__classdict__" : Str)) = false := by decide)
    (he : starEach [.Name n p, .Tuple ts k3 p3] X.env = (false, eval (.Name n p) X.env) :: starEach [.Tuple ts k3 p3] X.env := by rfl) (he2 : starEach [.Tuple ts k3 p3] X.env = (false, eval (.Tuple ts k3 p3) X.env) :: starEach [] X.env := by rfl) (hpl : (backTo pos (starEach [.Tuple ts k3 p3] X.env)).any (·.1) = false := by rfl) :
    FE (SuX X a oe pn) (zE Z (some (i, a)) fs dd) W (.Call (.Name "isinstance" p2) [.Name n p, .Tuple ts k3 p3] [] pos) (eXis i b) := by
  refine PEimp (pe_callB (t := tCons (tVar i) (tCons (tTup (tCs cvs)) tNil)) (call_xis T hz hf) hg hm (by decide +kernel) (pa_cons (pe_var (X := SuX X a oe pn) hN hv hd hcd) (pa_cons (pe_tup ht) pa_nil he2) he) (by decide) (by decide) he hpl) fun σ H Q ⟨ρ, G, env, S, e, h⟩ => ?_
  unfold eXis at h
  cases q : env[i]? with
  | none => rw [q] at h; exact h.elim
  | some o =>
    cases o with
    | some _ => rw [q] at h; exact h.elim
    | none =>
      rw [q] at h
      obtain ⟨_, vfs, ed, rf⟩ := S.z
      refine ⟨.ref a, e.2 i a rfl q, hl, fun tp hn => ⟨⟨vfs, by rw [upd_ne (ne_of_none ed hn)]; exact ed⟩, .inr ⟨tp, cvs, cvals, b, rfl, upd_same, hcv, hb, ?_⟩⟩⟩
      have st : Stb (kz X (zE Z (some (i, a)) fs dd)) H (upd H tp (.tup cvs)) := stb_new hn
      exact Post.end_ (Post.lift h pre_refl st) (S.tup hn) (.bl _)
end
/-! ### isinstance of values -/
def tyN (G : Gp) (u : U) : Option String := match u with
  | .non => some "NoneType"
  | .bl _ => some "bool"
  | .int _ => some "int"
  | .str _ => some "str"
  | .tup _ => some "tuple"
  | .rl _ => some "list"
  | .ref l => match G[l]? with
    | some (.lst _) => some "list"
    | _ => none
def eIs (tbl : List (String × Bool)) (f : Ev → Gp → R U) : Ev → Gp → R U := fun env G => (f env G).bind fun u G1 => match tyN G1 u with
  | some n => match tbl.lookup n with
    | some b => .ok (.bl b) G1
    | none => .bad
  | none => .bad
theorem mem_of_lookupS {n : String} {b : Bool} : ∀ {tbl : List (String × Bool)}, tbl.lookup n = some b → (n, b) ∈ tbl
  | [], h => by simp at h
  | (m, c) :: r, h => by
    rw [List.lookup_cons] at h
    by_cases hm : (n == m) = true
    · rw [hm] at h
      cases h
      rw [eq_of_beq hm]
      exact List.mem_cons_self
    · have hm : (n == m) = false := by simpa using hm
      rw [hm] at h
      exact List.mem_cons_of_mem _ (mem_of_lookupS h)
theorem tyN_ok {K : KZ} {ρ : List Addr} {G : Gp} {H : Hp} {u : U} {v : V} {n : String} (S : Sim K ρ G H) (r : RU K ρ H u v) (h : tyN G u = some n) : TyX K.K H v (.type n) := by
  cases r with
  | non => cases h; exact .base .non
  | bl b => cases h; exact .base (.bl b)
  | int i => cases h; exact .base (.int i)
  | str x => cases h; exact .base (.str x)
  | tup ht _ =>
    cases h
    rcases ht with ht | ⟨o, its, n, hk, hc, _⟩
    · exact .base (.tup ht)
    · exact .kTuple hk hc
  | rl ht _ =>
    cases h
    rcases ht with ⟨o, ht⟩ | ⟨o, its, n, hk, hc, _⟩
    · exact .base (.frz ht)
    · exact .kList hk hc
  | @ref l a ha =>
    unfold tyN at h
    simp only at h
    cases q : G[l]? with
    | none => rw [q] at h; exact nomatch h
    | some o =>
      rw [q] at h
      cases o with
      | lst xs =>
        cases h
        obtain ⟨vs, e, _⟩ := S.list ha q
        exact .base (.lst e)
      | _ => exact nomatch h
section
variable {X : Cx} {Z : ZZ X.K} {W : WX} {e t : Expr} {f : Ev → Gp → R U} {p2 p3 pos : Pos} {tbl : List (String × Bool)}
theorem fis1 {cv : V} {cval : Value} (hm : X.mg "isinstance" = none) (he : FE X Z W e f) (ht : PE X t (tC cv)) (hcv : ClsV cv cval) (hb : ∀ n b, (n, b) ∈ tbl → PySem.W.kitOne X.K (.type n) cval = some b)
    (hg : Gl X "isinstance" := by rfl) (hs : starEach [e, t] X.env = (false, eval e X.env) :: starEach [t] X.env := by rfl) (hs2 : starEach [t] X.env = (false, eval t X.env) :: starEach [] X.env := by rfl) (hpl : (backTo pos (starEach [t] X.env)).any (·.1) = false := by rfl) :
    FE X Z W (.Call (.Name "isinstance" p2) [e, t] [] pos) (eIs tbl f) := by
  refine PEimp (pe_callB (t := tCons (tF (kz X Z) W f) (tCs [cv])) call_isi hg hm (by decide +kernel) (pa_cons he (pcs_cons ht pcs_nil hs2) hs) (by decide) (by decide) hs hpl) fun σ H Q ⟨ρ, G, env, S, e, h⟩ => ?_
  refine tG_mono (step S e h) fun v H1 ⟨ρ1, G1, x, p1, s1, S1, e1, r1, h1⟩ => ?_
  cases q : tyN G1 x with
  | none => rw [q] at h1; exact h1.elim
  | some n =>
    rw [q] at h1
    simp only at h1
    cases q2 : tbl.lookup n with
    | none => rw [q2] at h1; exact h1.elim
    | some b => rw [q2] at h1; exact ⟨v, cv, .type n, cval, b, rfl, hcv, tyN_ok S1 r1 q, hb n b (mem_of_lookupS q2), h1.end_ S1 (.bl _)⟩
theorem fisT {ts : List Expr} {cvs : List V} {cvals : List Value} {k3 : Nat} (hm : X.mg "isinstance" = none) (he : FE X Z W e f) (ht : PA X ts (tCs cvs)) (hcv : Paired ClsV cvs cvals) (hb : ∀ n b, (n, b) ∈ tbl → PySem.W.kitAny X.K (.type n) cvals = some b) (hl : cvs.length ≤ sizeLine)
    (hg : Gl X "isinstance" := by rfl) (hs : starEach [e, .Tuple ts k3 p3] X.env = (false, eval e X.env) :: starEach [.Tuple ts k3 p3] X.env := by rfl) (hs2 : starEach [.Tuple ts k3 p3] X.env = (false, eval (.Tuple ts k3 p3) X.env) :: starEach [] X.env := by rfl) (hpl : (backTo pos (starEach [.Tuple ts k3 p3] X.env)).any (·.1) = false := by rfl) :
    FE X Z W (.Call (.Name "isinstance" p2) [e, .Tuple ts k3 p3] [] pos) (eIs tbl f) := by
  refine PEimp (pe_callB (t := tCons (tF (kz X Z) W f) (tCons (tTup (tCs cvs)) tNil)) call_isiT hg hm (by decide +kernel) (pa_cons he (pa_cons (pe_tup ht) pa_nil hs2) hs) (by decide) (by decide) hs hpl) fun σ H Q ⟨ρ, G, env, S, e, h⟩ => ?_
  refine tG_mono (step S e h) fun v H1 ⟨ρ1, G1, x, p1, s1, S1, e1, r1, h1⟩ => ?_
  cases q : tyN G1 x with
  | none => rw [q] at h1; exact h1.elim
  | some n =>
    rw [q] at h1
    simp only at h1
    cases q2 : tbl.lookup n with
    | none => rw [q2] at h1; exact h1.elim
    | some b =>
      rw [q2] at h1
      refine ⟨hl, fun tp hn => ?_⟩
      have st : Stb (kz X Z) H1 (upd H1 tp (.tup cvs)) := stb_new hn
      exact ⟨v, tp, cvs, .type n, cvals, b, rfl, upd_same, hcv, tyN_ok (S1.tup hn) (r1.mono pre_refl st) q, hb n b (mem_of_lookupS q2), Post.end_ (Post.lift h1 pre_refl st) (S1.tup hn) (.bl _)⟩
end
/-! the usual classes -/
def tyAll (p : String → Bool) : List (String × Bool) := ["NoneType", "bool", "int", "str", "tuple", "list", "dict"].map fun n => (n, p n)
def tbInt := tyAll fun n => n == "int" || n == "bool"
def tbBool := tyAll fun n => n == "bool"
def tbStr := tyAll fun n => n == "str"
def tbTup := tyAll fun n => n == "tuple"
def tbLst := tyAll fun n => n == "list"
def tbSeq := tyAll fun n => n == "tuple" || n == "list"
section
variable {K : PySem.W.Frag}
theorem kOne {c : String} {tbl : List (String × Bool)} (h : tbl.all (fun p => kitB p.1 c == some p.2) = true) : ∀ n b, (n, b) ∈ tbl → PySem.W.kitOne K (.type n) (.type c) = some b := fun n b hm => kit_ty (beq_iff_eq.mp (List.all_eq_true.mp h (n, b) hm))
def kitBs (a : String) : List String → Option Bool
  | [] => some false
  | c :: r => match kitB a c with
    | some true => some true
    | some false => kitBs a r
    | none => none
theorem kitBs_ok {a : String} : ∀ {cs : List String} {b : Bool}, kitBs a cs = some b → PySem.W.kitAny K (.type a) (cs.map Value.type) = some b
  | [], b, h => h
  | c :: r, b, h => by
    unfold kitBs at h
    rw [List.map_cons]
    unfold PySem.W.kitAny
    cases q : kitB a c with
    | none => rw [q] at h; exact nomatch h
    | some k =>
      rw [q] at h
      rw [kit_ty (K := K) q]
      cases k with
      | true => exact h
      | false => exact kitBs_ok h
theorem kAny {cs : List String} {tbl : List (String × Bool)} (h : tbl.all (fun p => kitBs p.1 cs == some p.2) = true) : ∀ n b, (n, b) ∈ tbl → PySem.W.kitAny K (.type n) (cs.map Value.type) = some b := fun n b hm => kitBs_ok (beq_iff_eq.mp (List.all_eq_true.mp h (n, b) hm))
theorem kInt : ∀ n b, (n, b) ∈ tbInt → PySem.W.kitOne K (.type n) (.type "int") = some b := kOne (by decide +kernel)
theorem kBool : ∀ n b, (n, b) ∈ tbBool → PySem.W.kitOne K (.type n) (.type "bool") = some b := kOne (by decide +kernel)
theorem kStr : ∀ n b, (n, b) ∈ tbStr → PySem.W.kitOne K (.type n) (.type "str") = some b := kOne (by decide +kernel)
theorem kTup : ∀ n b, (n, b) ∈ tbTup → PySem.W.kitOne K (.type n) (.type "tuple") = some b := kOne (by decide +kernel)
theorem kLst : ∀ n b, (n, b) ∈ tbLst → PySem.W.kitOne K (.type n) (.type "list") = some b := kOne (by decide +kernel)
theorem kTL : ∀ n b, (n, b) ∈ tbSeq → PySem.W.kitAny K (.type n) (["tuple", "list"].map Value.type) = some b := kAny (by decide +kernel)
theorem kLT : ∀ n b, (n, b) ∈ tbSeq → PySem.W.kitAny K (.type n) (["list", "tuple"].map Value.type) = some b := kAny (by decide +kernel)
end
section
variable {X : Cx} {Z : ZZ X.K} {W : WX} {e : Expr} {f : Ev → Gp → R U} {p2 p3 p4 p5 pos : Pos}
theorem clsTy {x : Str} {T : String} (hm : X.mg x = none) (hv : bootBuiltins x = some (.type T)) (hg : Gl X x) (hn : x ≠ "__name__") (hd : (x == ("__debug__" : Str)) = false) : PE X (.Name x p2) (tC (.ty T)) := pe_bltn hg hm hv rfl hn hd
theorem fisInt (hm : X.mg "isinstance" = none) (hi : X.mg "int" = none) (he : FE X Z W e f) (hg : Gl X "isinstance" := by rfl) (hgi : Gl X "int" := by rfl) (hs : starEach [e, .Name "int" p3] X.env = (false, eval e X.env) :: starEach [.Name "int" p3] X.env := by rfl) (hs2 : starEach [.Name "int" p3] X.env = (false, eval (.Name "int" p3) X.env) :: starEach [] X.env := by rfl) (hpl : (backTo pos (starEach [.Name "int" p3] X.env)).any (·.1) = false := by rfl) :
    FE X Z W (.Call (.Name "isinstance" p2) [e, .Name "int" p3] [] pos) (eIs tbInt f) := fis1 hm he (clsTy hi (by decide +kernel) hgi (by decide) (by decide)) (.ty _) kInt hg hs hs2 hpl
theorem fisBool (hm : X.mg "isinstance" = none) (hi : X.mg "bool" = none) (he : FE X Z W e f) (hg : Gl X "isinstance" := by rfl) (hgi : Gl X "bool" := by rfl) (hs : starEach [e, .Name "bool" p3] X.env = (false, eval e X.env) :: starEach [.Name "bool" p3] X.env := by rfl) (hs2 : starEach [.Name "bool" p3] X.env = (false, eval (.Name "bool" p3) X.env) :: starEach [] X.env := by rfl) (hpl : (backTo pos (starEach [.Name "bool" p3] X.env)).any (·.1) = false := by rfl) :
    FE X Z W (.Call (.Name "isinstance" p2) [e, .Name "bool" p3] [] pos) (eIs tbBool f) := fis1 hm he (clsTy hi (by decide +kernel) hgi (by decide) (by decide)) (.ty _) kBool hg hs hs2 hpl
theorem fisStr (hm : X.mg "isinstance" = none) (hi : X.mg "str" = none) (he : FE X Z W e f) (hg : Gl X "isinstance" := by rfl) (hgi : Gl X "str" := by rfl) (hs : starEach [e, .Name "str" p3] X.env = (false, eval e X.env) :: starEach [.Name "str" p3] X.env := by rfl) (hs2 : starEach [.Name "str" p3] X.env = (false, eval (.Name "str" p3) X.env) :: starEach [] X.env := by rfl) (hpl : (backTo pos (starEach [.Name "str" p3] X.env)).any (·.1) = false := by rfl) :
    FE X Z W (.Call (.Name "isinstance" p2) [e, .Name "str" p3] [] pos) (eIs tbStr f) := fis1 hm he (clsTy hi (by decide +kernel) hgi (by decide) (by decide)) (.ty _) kStr hg hs hs2 hpl
theorem fisTuple (hm : X.mg "isinstance" = none) (hi : X.mg "tuple" = none) (he : FE X Z W e f) (hg : Gl X "isinstance" := by rfl) (hgi : Gl X "tuple" := by rfl) (hs : starEach [e, .Name "tuple" p3] X.env = (false, eval e X.env) :: starEach [.Name "tuple" p3] X.env := by rfl) (hs2 : starEach [.Name "tuple" p3] X.env = (false, eval (.Name "tuple" p3) X.env) :: starEach [] X.env := by rfl) (hpl : (backTo pos (starEach [.Name "tuple" p3] X.env)).any (·.1) = false := by rfl) :
    FE X Z W (.Call (.Name "isinstance" p2) [e, .Name "tuple" p3] [] pos) (eIs tbTup f) := fis1 hm he (clsTy hi (by decide +kernel) hgi (by decide) (by decide)) (.ty _) kTup hg hs hs2 hpl
theorem fisList (hm : X.mg "isinstance" = none) (hi : X.mg "list" = none) (he : FE X Z W e f) (hg : Gl X "isinstance" := by rfl) (hgi : Gl X "list" := by rfl) (hs : starEach [e, .Name "list" p3] X.env = (false, eval e X.env) :: starEach [.Name "list" p3] X.env := by rfl) (hs2 : starEach [.Name "list" p3] X.env = (false, eval (.Name "list" p3) X.env) :: starEach [] X.env := by rfl) (hpl : (backTo pos (starEach [.Name "list" p3] X.env)).any (·.1) = false := by rfl) :
    FE X Z W (.Call (.Name "isinstance" p2) [e, .Name "list" p3] [] pos) (eIs tbLst f) := fis1 hm he (clsTy hi (by decide +kernel) hgi (by decide) (by decide)) (.ty _) kLst hg hs hs2 hpl
theorem fisTL {k3 : Nat} (hm : X.mg "isinstance" = none) (hi : X.mg "tuple" = none) (hl : X.mg "list" = none) (he : FE X Z W e f) (hg : Gl X "isinstance" := by rfl) (hgi : Gl X "tuple" := by rfl) (hgl : Gl X "list" := by rfl)
    (hs : starEach [e, .Tuple [.Name "tuple" p3, .Name "list" p4] k3 p5] X.env = (false, eval e X.env) :: starEach [.Tuple [.Name "tuple" p3, .Name "list" p4] k3 p5] X.env := by rfl) (hs2 : starEach [.Tuple [.Name "tuple" p3, .Name "list" p4] k3 p5] X.env = (false, eval (.Tuple [.Name "tuple" p3, .Name "list" p4] k3 p5) X.env) :: starEach [] X.env := by rfl)
    (hs3 : starEach [.Name "tuple" p3, .Name "list" p4] X.env = (false, eval (.Name "tuple" p3) X.env) :: starEach [.Name "list" p4] X.env := by rfl) (hs4 : starEach [.Name "list" p4] X.env = (false, eval (.Name "list" p4) X.env) :: starEach [] X.env := by rfl) (hpl : (backTo pos (starEach [.Tuple [.Name "tuple" p3, .Name "list" p4] k3 p5] X.env)).any (·.1) = false := by rfl) :
    FE X Z W (.Call (.Name "isinstance" p2) [e, .Tuple [.Name "tuple" p3, .Name "list" p4] k3 p5] [] pos) (eIs tbSeq f) :=
  fisT hm he (pcs_cons (clsTy hi (by decide +kernel) hgi (by decide) (by decide)) (pcs_cons (clsTy hl (by decide +kernel) hgl (by decide) (by decide)) pcs_nil hs4) hs3) (.cons (.ty _) (.cons (.ty _) .nil)) kTL (by show 2 ≤ sizeLine; rw [line_eq]; decide) hg hs hs2 hpl
end
end FL

set_option Elab.async false
set_option linter.all false
set_option maxRecDepth 100000
set_option maxHeartbeats 4000000
/-! enumerate(tuple): the tuple's twin of the layer's enumerate(list) -/
namespace PySem
set_option maxHeartbeats 4000000 in
theorem meets_enumerate_newT (l : Addr) (items : Array Value) (n : Nat) (dct : Option Addr) (sl : Array (Option Value)) :
    Meets (Builtin.«enumerate.__new__» ⟨[.type "enumerate", .ref l], []⟩) (fun _ R s => s.heap.get? l = some { cls := .type "tuple", dict := dct, data := .seq items n, slots := sl } ∧
      R (.ok (.ret (.ref (s.heap.push { cls := .type "tuple_iterator", data := .fields #[.ref l, .int 0 0] }).objs.size)))
        { s with heap := (s.heap.push { cls := .type "tuple_iterator", data := .fields #[.ref l, .int 0 0] }).push { cls := .type "enumerate", data := .fields #[.none, .bool false, .ref s.heap.objs.size, rawInt 0, .none, .none] } }) :=
  .of_wp fun prog w A R s h => by
    obtain ⟨hp, g, d, tk, os⟩ := s; obtain ⟨hl, h⟩ := h
    have hsub := sub_enumerate
    have hL : Heap.IsTuple (Shared.heap ⟨hp, g, d, tk, os⟩) l items := ⟨_, hl, rfl, n, rfl⟩
    wp_walk using wpAny_loadPart' hl
    refine wpAny_stack_any fun st => wpAny_pure ?_
    split
    · rename_i c _ _ _ _ _
      cases (c == Value.type "enumerate")
      · wp_walk using wpAny_loadPart' hl, wpAny_pyIter_tuple hL
        exact ⟨_, rfl, h⟩
      · wp_walk using wpAny_loadPart' hl, wpAny_pyIter_tuple hL
        exact ⟨_, rfl, h⟩
    · wp_walk using wpAny_loadPart' hl, wpAny_pyIter_tuple hL
      exact ⟨_, rfl, h⟩
section
variable {prog : Program} {w : World} {A : Around} {E : Value → Shared → Prop} {s : Shared}
theorem call_enumerate_tuple {l : Addr} {items : Array Value} {Q : Value → Shared → Prop} (hL : s.heap.IsTuple l items)
    (h : ∀ h', IsEnum h' (s.heap.objs.size + 1) s.heap.objs.size 0 .none → h'.IsTupleIter s.heap.objs.size l 0 → h'.objs.size = s.heap.objs.size + 2 →
      (∀ b o, s.heap.get? b = some o → h'.get? b = some o) → Q (.ref (s.heap.objs.size + 1)) { s with heap := h' }) :
    wpAny (model prog w) A (call (.type "enumerate") [.ref l]) Q E s := by
  obtain ⟨⟨c, dct, dt, sl⟩, hl, hc, n, hd⟩ := hL
  replace hc : c = .type "tuple" := hc
  replace hd : dt = .seq items n := hd
  subst hc hd
  refine callType_new F.called_enumerate (by decide) (F.typeCall_enumerate_1 _) (F.newCall_enumerate_1 _) (fun obj => F.args_object_init_2 obj _) F.entry_enumerate_new
    (meets_enumerate_newT l items n dct sl) ⟨hl, ?_⟩
  have hz : (s.heap.push { cls := .type "tuple_iterator", data := .fields #[.ref l, .int 0 0] }).objs.size = s.heap.objs.size + 1 := Heap.size_push ..
  show _ ∧ _
  rw [hz]
  have he : IsEnum ((s.heap.push { cls := .type "tuple_iterator", data := .fields #[.ref l, .int 0 0] }).push
      { cls := .type "enumerate", data := .fields #[.none, .bool false, .ref s.heap.objs.size, rawInt 0, .none, .none] }) (s.heap.objs.size + 1) s.heap.objs.size 0 .none := by
    have := Heap.get?_push_size (s.heap.push { cls := .type "tuple_iterator", data := .fields #[.ref l, .int 0 0] })
      (o := { cls := .type "enumerate", data := .fields #[.none, .bool false, .ref s.heap.objs.size, rawInt 0, .none, .none] }) rfl
    rw [hz] at this
    exact this
  refine ⟨⟨_, he, rfl⟩, h _ he ⟨_, Heap.get?_push_of_some _ (Heap.get?_push_size _ rfl), rfl, rfl⟩ (by rw [Heap.size_push, hz]) fun b o e => Heap.get?_push_of_some _ (Heap.get?_push_of_some _ e)⟩
theorem enumT_end {e it l : Addr} {i : Nat} {items : Array Value} {old : Value} {Q : Option Value → Shared → Prop} (hh : A.handled = none)
    (he : IsEnum s.heap e it i old) (hit : s.heap.IsTupleIter it l i) (hl : s.heap.IsTuple l items) (hx : items[i]? = none)
    (hQ : ∀ h', Heap.ExtBut it s.heap h' → Q none { s with heap := h' }) : wpAny (model prog w) A (pyNext (.ref e)) Q E s := by
  have hT : s.TypeIs (.ref e) "enumerate" := ⟨_, he, rfl⟩
  unfold pyNext
  refine wpAny_bind (wpAny_attempt (wpAny_callSpecial?_slot (name := Str.ofString "__next__") hT F.slot_enumerate_next
    (wpAny_call_entry F.slot_enumerate_next hT F.entry_enumerate_next ?_ (F.args_enumerate_next_1 _))))
  show wpAny _ _ (field (.ref e) 2 >>= _) _ _ _
  refine wpAny_bind (wpAny_field he rfl (x := .ref it) rfl ?_)
  refine wpAny_bind (wpAny_nextOf_tuple_end hh hit hl hx fun h' x he' hx' => ?_)
  obtain ⟨o, ho, hc⟩ := hx'
  refine wpAny_bind (wpAny_isInstance (T := "StopIteration") (b := true) ⟨o, ho, hc⟩ isSubtype_stop ?_)
  exact wpAny_pure (hQ _ he')
/-! sum, max, min of a tuple of ints -/
open Sem (wp)
variable {l : Addr} {xs : Array (Int × Tok)}
theorem iter_intTup {Q : Value → Shared → Prop} (hl : s.heap.IsTuple l (intItems xs))
    (h : ∀ s₂ : Shared, s₂ = { s with heap := s.heap.push { cls := .type "tuple_iterator", data := .fields #[.ref l, .int 0 0] } } →
      (s₂.heap.IsTupleIter s.heap.objs.size l 0 ∧ s₂.heap.IsTuple l (intItems xs)) → (∀ b ∈ [s.heap.objs.size, l], b < s₂.heap.objs.size) → l ≠ s.heap.objs.size → Q (.ref s.heap.objs.size) s₂) :
    wpAny (model prog w) A (pyIter (.ref l)) Q E s := by
  have hlt : l < s.heap.objs.size := by obtain ⟨_, e, _⟩ := hl; exact Heap.lt_size e
  refine wpAny_pyIter_tuple hl (h _ rfl ⟨⟨_, Heap.get?_push_size _ rfl, rfl, rfl⟩, hl.at fun o e => Heap.get?_push_of_some _ e⟩ (fun b hb => ?_) (Nat.ne_of_lt hlt))
  show b < (s.heap.push _).objs.size
  rw [Heap.size_push]
  rcases List.mem_cons.mp hb with rfl | hb
  · exact Nat.lt_succ_self _
  · rcases List.mem_cons.mp hb with rfl | hb
    · exact Nat.lt_succ_of_lt hlt
    · cases hb
theorem old_keptT {h' : Heap} (hk : ∀ b o, b ∉ [s.heap.objs.size] → (s.heap.push { cls := .type "tuple_iterator", data := .fields #[.ref l, .int 0 0] }).get? b = some o → h'.get? b = some o) :
    ∀ b o, s.heap.get? b = some o → h'.get? b = some o := fun b o e => by
  refine hk b o (fun hm => ?_) (Heap.get?_push_of_some _ e)
  rcases List.mem_cons.mp hm with e1 | hm
  · exact absurd (e1 ▸ Heap.lt_size e) (Nat.lt_irrefl _)
  · cases hm
theorem max_intTup {Q : Value → Shared → Prop} (hh : A.handled = none) (hl : s.heap.IsTuple l (intItems xs)) (hne : 0 < xs.size)
    (h : ∀ v h' tk, (intItems xs)[argBest (fun i j => decide (numAt xs i > numAt xs j)) (xs.size - 1)]? = some v → (∀ b o, s.heap.get? b = some o → h'.get? b = some o) → Q v { s with heap := h', toks := tk }) :
    wpAny (model prog w) A (call (.builtin "max") [.ref l]) Q E s := by
  refine call_max_walk (iter_intTup hl fun s₂ e st hfp hlI => ?_)
  subst e
  refine ⟨_, _, _, _, _, _, _, rfl, Walks.tuple (A := A.in1) hh _ l hlI (intItems xs), st, hfp, by simpa [intItems] using hne, CmpOf.ints_gt (numAt xs) (fun _ _ => intItems_at), fun v h' tk hP hk => ?_⟩
  exact h v h' tk (by simpa [intItems] using hP) (old_keptT hk)
theorem min_intTup {Q : Value → Shared → Prop} (hh : A.handled = none) (hl : s.heap.IsTuple l (intItems xs)) (hne : 0 < xs.size)
    (h : ∀ v h' tk, (intItems xs)[argBest (fun i j => decide (numAt xs i < numAt xs j)) (xs.size - 1)]? = some v → (∀ b o, s.heap.get? b = some o → h'.get? b = some o) → Q v { s with heap := h', toks := tk }) :
    wpAny (model prog w) A (call (.builtin "min") [.ref l]) Q E s := by
  refine call_min_walk (iter_intTup hl fun s₂ e st hfp hlI => ?_)
  subst e
  refine ⟨_, _, _, _, _, _, _, rfl, Walks.tuple (A := A.in1) hh _ l hlI (intItems xs), st, hfp, by simpa [intItems] using hne, CmpOf.ints_lt (numAt xs) (fun _ _ => intItems_at), fun v h' tk hP hk => ?_⟩
  exact h v h' tk (by simpa [intItems] using hP) (old_keptT hk)
theorem sum_intTup {Q : Value → Shared → Prop} (hh : A.handled = none) (hl : s.heap.IsTuple l (intItems xs))
    (h : ∀ h' tk t', (∀ b o, s.heap.get? b = some o → h'.get? b = some o) → Q (.int (preSum (numAt xs) xs.size) t') { s with heap := h', toks := tk }) :
    wpAny (model prog w) A (call (.builtin "sum") [.ref l]) Q E s := by
  refine call_sum_walkG (iter_intTup hl fun s₂ e st hfp hlI => ?_)
  subst e
  refine ⟨_, _, _, _, _, _, numAt xs, rfl, Walks.tuple (A := A.in1) hh _ l hlI (intItems xs), st, hfp, (fun _ _ => intItems_at), fun h' tk t' hk => ?_⟩
  have := h h' tk t' (old_keptT hk)
  simpa [intItems] using this
end
end PySem
namespace L2
open PySem PySem.Spec PyProof.Rows
/-- the tuple at a, each item in a new pair -/
def IteT (K : PySem.W.Frag) (a : Addr) : It :=
  ⟨fun i H => ∃ (xs : List V) (x : V), SqT K H a xs ∧ xs[i]? = some x, fun i H v H' => ∃ T x, v = .ref T ∧ H T = none ∧ H' = upd H T (.tup [.int (i : Nat), x]) ∧ ∀ xs, SqT K H a xs → xs[i]? = some x, fun i H => ∃ xs : List V, SqT K H a xs ∧ xs.length ≤ i⟩
theorem turn_enumT {P : Program} {w : World} {K : PySem.W.Frag} {elts : List Expr} {kk : Nat} {tpos : Pos} (a e it : Addr) (hat : a ≠ it) (hae : a ≠ e) :
    Turn P w K (.Tuple elts kk tpos) (IteT K a) [e, it] e (fun i h => (∃ old, IsEnum h e it ((i : Nat) : Int) old) ∧ h.IsTupleIter it a i ∧ e ≠ it) where
  mem := by simp
  obj := fun i h st b hb => by
    obtain ⟨⟨old, he⟩, ⟨o, ho, hc, hd⟩, _⟩ := st
    have e' : b = e ∨ b = it := by simpa using hb
    rcases e' with z | z
    · rw [z]; exact ⟨_, he, fun v q => nomatch q⟩
    · rw [z]; exact ⟨o, ho, fun v q => by rw [hd] at q; cases q⟩
  keep := fun i h h' st k => let ⟨⟨old, he⟩, hi, hne⟩ := st; ⟨⟨old, k e (by simp) _ he⟩, hi.at fun o q => k it (by simp) o q, hne⟩
  item := by
    intro X hP hw hK hc i pins s σ H E I hf st hg
    subst hP hw hK
    obtain ⟨⟨old, he⟩, hit, hne⟩ := st
    obtain ⟨xs, x, hq, hx⟩ := hg
    obtain ⟨its, rv, p, hz⟩ := I.tuple hq
    obtain ⟨u, hu, ru⟩ := rv.get hx
    have hel : e < s.heap.objs.size := Heap.lt_size he
    have hil : it < s.heap.objs.size := by obtain ⟨_, q, _⟩ := hit; exact Heap.lt_size q
    have hh : X.A.handled = none := I.ok.hd hc
    have D := Draws.tuple (prog := X.prog) (w := X.w) (A := X.A.in1) (by first | exact hh | (show X.A.in1.handled = none; exact hh)) it a hat its.toArray
    have hlt : i < its.toArray.size := by
      have := (List.getElem?_eq_some_iff.mp hu).1
      simpa using this
    refine wpAny_pyNext_enum_itemD D he ⟨hit, (show s.heap.IsTuple a its.toArray from p)⟩ hlt hne (by simp; exact ⟨hne, Ne.symm hae⟩) fun x' h' tk hP ho hst hT hsz hk => ?_
    obtain ⟨hit', _⟩ := hst
    have ex' : x' = u := by
      have hP : its.toArray[i]? = some x' := hP
      rw [List.getElem?_toArray, hu] at hP
      exact (Option.some.inj hP).symm
    subst ex'
    refine ⟨_, rfl, wpAny_letOwnedTupleGo_enum (s := { s with heap := h', toks := tk + 1 }) ho fun h'' he' sb => ?_⟩
    have hT2 : h''.get? s.heap.objs.size = some { cls := .type "tuple", data := .seq #[.int i tk, x'] } := (sb.2 _ (Nat.ne_of_gt hel)).trans hT
    have new : ObjOk X.prog X.w (upd H s.heap.objs.size (.tup [.int (i : Nat), x])) h'' s.heap.objs.size (.tup [.int (i : Nat), x]) :=
      ⟨by show 2 ≤ sizeLine; decide, [.int i tk, x'], .cons ⟨_, rfl⟩ (.cons ru .nil), ⟨_, hT2, rfl, _, rfl⟩⟩
    have I1 : Inv X pins σ (upd H s.heap.objs.size (.tup [.int (i : Nat), x])) { s with heap := h'', toks := tk + 1 } :=
      I.turnedNew (ch := [e, it]) (fun b ob hb q => (sb.2 b (fun z => hb (by simp [z]))).trans (hk b ob (fun z => hb (by simp [z])) (fun z => hb (by simp [z])) q)) hf (Nat.le_refl _) new
    refine ⟨.ref s.heap.objs.size, _, I1, rfl, ⟨_, x, rfl, I.hok.fresh (Nat.le_refl _), rfl, fun ys hy => by rw [I.tuple_inj hy hq]; exact hx⟩, ⟨⟨x', ?_⟩, hit'.at fun o q => (sb.2 it (Ne.symm hne)).trans q, hne⟩, fun b hb => ?_⟩
    · have e1 : ((i + 1 : Nat) : Int) = (i : Int) + 1 := by omega
      rw [e1]; exact he'
    · have hb' : b < s.heap.objs.size := by
        have e' : b = e ∨ b = it := by simpa using hb
        rcases e' with z | z
        · rw [z]; exact hel
        · rw [z]; exact hil
      rw [upd_ne (Nat.ne_of_lt hb')]
      exact (hf b hb).1
  done := by
    intro X hP hw hK hc i pins s σ H E I hf st hg
    subst hP hw hK
    obtain ⟨⟨old, he⟩, hit, hne⟩ := st
    obtain ⟨xs, hq, hx⟩ := hg
    obtain ⟨its, rv, p, hz⟩ := I.tuple hq
    obtain ⟨f0, f1, f2, f3, f4, f5⟩ := hf it (by simp)
    have hl := rv.length
    have hh : X.A.handled = none := I.ok.hd hc
    exact PySem.enumT_end hh he hit (show s.heap.IsTuple a its.toArray from p) (by simp; omega) fun h' eb => ⟨rfl, I.turned (t' := s.toks) (fun b o hb q => eb b o hb q) f0 f1 f3 f4 f5⟩
  self := fun A i s Q E st h => let ⟨⟨_, he⟩, _⟩ := st; wpAny_pyIter_enum he h
end L2

namespace L2
open PySem PySem.Spec PyProof.Rows
section
variable {prog : Program} {w : World} {A : Around} {E : Value → Shared → Prop} {Q : Value → Shared → Prop} {s : Shared} {l : Addr} {its : List Value} {ns : List Int}
theorem sum_rawT (hh : A.handled = none) (hl : s.heap.IsTuple l its.toArray) (hi : IntsAre its ns)
    (h : ∀ h' tk t', (∀ b o, s.heap.get? b = some o → h'.get? b = some o) → Q (.int ns.sum t') { s with heap := h', toks := tk }) : wpAny (model prog w) A (call (.builtin "sum") [.ref l]) Q E s := by
  obtain ⟨xs, e⟩ := hi.allInts.items
  have hn : numsOf (intItems xs).toList = ns := by rw [← e]; exact hi.numsOf
  rw [nums_intItems] at hn
  rw [e] at hl
  refine PySem.sum_intTup hh hl fun h' tk t' hk => ?_
  have := h h' tk t' hk
  rw [preSum_eq, List.take_of_length_le (by simp), hn]; exact this
theorem max_rawT (hh : A.handled = none) (hl : s.heap.IsTuple l its.toArray) (hi : IntsAre its ns) (hne : 0 < ns.length)
    (h : ∀ h' tk M t', (∀ b o, s.heap.get? b = some o → h'.get? b = some o) → M ∈ ns → (∀ a, a ∈ ns → a ≤ M) → Q (.int M t') { s with heap := h', toks := tk }) : wpAny (model prog w) A (call (.builtin "max") [.ref l]) Q E s := by
  obtain ⟨xs, e⟩ := hi.allInts.items
  have hn : numsOf (intItems xs).toList = ns := by rw [← e]; exact hi.numsOf
  rw [nums_intItems] at hn
  subst hn
  rw [e] at hl
  have hsz : 0 < xs.size := by simpa using hne
  refine PySem.max_intTup hh hl hsz fun v h' tk hv hk => ?_
  obtain ⟨t, rfl⟩ := intItems_at hv
  obtain ⟨h1, h2⟩ := argBest_gt (numAt xs) (xs.size - 1)
  refine h h' tk _ t hk ?_ fun a ha => ?_
  · rw [numAt_eq]; exact PySem.getD_mem (by rw [List.length_map, Array.length_toList]; omega)
  · obtain ⟨j, hj, rfl⟩ := mem_getD ha
    rw [List.length_map, Array.length_toList] at hj
    rw [← numAt_eq]; exact h2 j (by omega)
theorem min_rawT (hh : A.handled = none) (hl : s.heap.IsTuple l its.toArray) (hi : IntsAre its ns) (hne : 0 < ns.length)
    (h : ∀ h' tk M t', (∀ b o, s.heap.get? b = some o → h'.get? b = some o) → M ∈ ns → (∀ a, a ∈ ns → M ≤ a) → Q (.int M t') { s with heap := h', toks := tk }) : wpAny (model prog w) A (call (.builtin "min") [.ref l]) Q E s := by
  obtain ⟨xs, e⟩ := hi.allInts.items
  have hn : numsOf (intItems xs).toList = ns := by rw [← e]; exact hi.numsOf
  rw [nums_intItems] at hn
  subst hn
  rw [e] at hl
  have hsz : 0 < xs.size := by simpa using hne
  refine PySem.min_intTup hh hl hsz fun v h' tk hv hk => ?_
  obtain ⟨t, rfl⟩ := intItems_at hv
  obtain ⟨h1, h2⟩ := argBest_lt (numAt xs) (xs.size - 1)
  refine h h' tk _ t hk ?_ fun a ha => ?_
  · rw [numAt_eq]; exact PySem.getD_mem (by rw [List.length_map, Array.length_toList]; omega)
  · obtain ⟨j, hj, rfl⟩ := mem_getD ha
    rw [List.length_map, Array.length_toList] at hj
    rw [← numAt_eq]; exact h2 j (by omega)
end
section
variable {X : Cx}
def rSumQ (K : PySem.W.Frag) : List V → Hp → VK → Prop := fun vs H Q => ∃ (a : Addr) (ns : List Int), vs = [V.ref a] ∧ (SqL K H a (ns.map V.int) ∨ SqT K H a (ns.map V.int)) ∧ Q (.int ns.sum) H
def rMaxQ (K : PySem.W.Frag) : List V → Hp → VK → Prop := fun vs H Q => ∃ (a : Addr) (ns : List Int), vs = [V.ref a] ∧ (SqL K H a (ns.map V.int) ∨ SqT K H a (ns.map V.int)) ∧ 0 < ns.length ∧ ∀ m, m ∈ ns → (∀ y, y ∈ ns → y ≤ m) → Q (.int m) H
def rMinQ (K : PySem.W.Frag) : List V → Hp → VK → Prop := fun vs H Q => ∃ (a : Addr) (ns : List Int), vs = [V.ref a] ∧ (SqL K H a (ns.map V.int) ∨ SqT K H a (ns.map V.int)) ∧ 0 < ns.length ∧ ∀ m, m ∈ ns → (∀ y, y ∈ ns → m ≤ y) → Q (.int m) H
theorem crq_sum (hc : X.calm = true) : CallR X (.builtin "sum") (rSumQ X.K) := by
  intro pins s σ H vs us Q I r h
  obtain ⟨a, ns, rfl, hs | hs, q⟩ := h
  · exact cr_sum hc pins s σ H _ us Q I r ⟨a, ns, rfl, hs, q⟩
  · obtain ⟨its, rv, hl, _⟩ := I.tuple hs
    rw [Vals.ref1 r]
    exact sum_rawT (I.ok.hd hc) (show s.heap.IsTuple a its.toArray from hl) rv.ints fun h' tk t' hk => ⟨.int _, H, I.kept hk, ⟨_, rfl⟩, q⟩
theorem crq_max (hc : X.calm = true) : CallR X (.builtin "max") (rMaxQ X.K) := by
  intro pins s σ H vs us Q I r h
  obtain ⟨a, ns, rfl, hs | hs, hne, q⟩ := h
  · exact cr_max hc pins s σ H _ us Q I r ⟨a, ns, rfl, hs, hne, q⟩
  · obtain ⟨its, rv, hl, _⟩ := I.tuple hs
    rw [Vals.ref1 r]
    exact max_rawT (I.ok.hd hc) (show s.heap.IsTuple a its.toArray from hl) rv.ints hne fun h' tk m t' hk h1 h2 => ⟨.int _, H, I.kept hk, ⟨_, rfl⟩, q m h1 h2⟩
theorem crq_min (hc : X.calm = true) : CallR X (.builtin "min") (rMinQ X.K) := by
  intro pins s σ H vs us Q I r h
  obtain ⟨a, ns, rfl, hs | hs, hne, q⟩ := h
  · exact cr_min hc pins s σ H _ us Q I r ⟨a, ns, rfl, hs, hne, q⟩
  · obtain ⟨its, rv, hl, _⟩ := I.tuple hs
    rw [Vals.ref1 r]
    exact min_rawT (I.ok.hd hc) (show s.heap.IsTuple a its.toArray from hl) rv.ints hne fun h' tk m t' hk h1 h2 => ⟨.int _, H, I.kept hk, ⟨_, rfl⟩, q m h1 h2⟩
def iEnumA (K : PySem.W.Frag) (ta : TA) : TI := fun σ H R => ta σ H fun vs H1 => ∃ a xs, vs = [.ref a] ∧ ((SqL K H1 a xs ∧ R (Ite K a) H1) ∨ (SqT K H1 a xs ∧ R (IteT K a) H1))
theorem pi_enumA {e : Expr} {ta : TA} {p pos tpos : Pos} {elts : List Expr} {kk : Nat} (hg : Gl X "enumerate") (hm : X.mg "enumerate" = none) (ha : PA X [e] ta) (hs : starEach [e] X.env = [(false, eval e X.env)] := by rfl) :
    PI X (.Tuple elts kk tpos) (.Call (.Name "enumerate" p) [e] [] pos) (iEnumA X.K ta) := by
  refine ⟨fun pins s σ H R I h => ?_⟩
  refine Call_ (ld_blt I hg hm boot_enumerate (PyProof.Rows.callWith_type1 (thn (ha.run pos pins s σ H _ I h) fun us s1 ⟨vs, H1, I1, r1, q1⟩ => ?_) hs rfl))
  obtain ⟨a, xs, ex, q⟩ := q1
  subst ex
  have hle : ∀ b, (b = s1.heap.objs.size + 1 ∨ b = s1.heap.objs.size) → s1.heap.objs.size ≤ b := fun b e' => by
    rcases e' with z | z
    · rw [z]; exact Nat.le_add_right _ _
    · rw [z]; exact Nat.le_refl _
  cases r1 with
  | cons r rr =>
    cases rr
    cases r
    rcases q with ⟨hq, q⟩ | ⟨hq, q⟩
    · obtain ⟨its, rv, p', hz⟩ := I1.list hq
      refine call_enumerate_list p'.isList fun h' he hit hsz hk => wpAny_pyIter_enum he ?_
      have I2 : Inv X pins σ H1 { s1 with heap := h' } := I1.kept (t' := s1.toks) hk
      exact ⟨s1.heap.objs.size + 1, [s1.heap.objs.size + 1, s1.heap.objs.size], _, _, H1, rfl, I2, turn_enum a (s1.heap.objs.size + 1) s1.heap.objs.size, ⟨⟨.none, he⟩, hit, Nat.succ_ne_self _⟩, fun b hb => I1.fpOk (hle b (by simpa using hb)) (I1.hok.fresh (hle b (by simpa using hb))), q⟩
    · obtain ⟨its, rv, p', hz⟩ := I1.tuple hq
      have hlt : a < s1.heap.objs.size := p'.lt
      refine PySem.call_enumerate_tuple (show s1.heap.IsTuple a its.toArray from p') fun h' he hit hsz hk => wpAny_pyIter_enum he ?_
      have I2 : Inv X pins σ H1 { s1 with heap := h' } := I1.kept (t' := s1.toks) hk
      exact ⟨s1.heap.objs.size + 1, [s1.heap.objs.size + 1, s1.heap.objs.size], _, _, H1, rfl, I2, turn_enumT a (s1.heap.objs.size + 1) s1.heap.objs.size (Nat.ne_of_lt hlt) (Nat.ne_of_lt (Nat.lt_succ_of_lt hlt)), ⟨⟨.none, he⟩, hit, Nat.succ_ne_self _⟩, fun b hb => I1.fpOk (hle b (by simpa using hb)) (I1.hok.fresh (hle b (by simpa using hb))), q⟩
end
end L2

set_option Elab.async false
set_option linter.all false
set_option maxRecDepth 100000
set_option maxHeartbeats 4000000
set_option autoImplicit false
namespace FL
open PySem PySem.Spec L2

/-! ### sum, max, min of ints -/
def intsU : List U → Option (List Int)
  | [] => some []
  | .int i :: r => (intsU r).map (i :: ·)
  | _ :: _ => none
def maxL : List Int → Int
  | [] => 0
  | [x] => x
  | x :: y :: r => if x < maxL (y :: r) then maxL (y :: r) else x
def minL : List Int → Int
  | [] => 0
  | [x] => x
  | x :: y :: r => if minL (y :: r) < x then minL (y :: r) else x
theorem maxL_spec : ∀ {l : List Int}, l ≠ [] → maxL l ∈ l ∧ ∀ y ∈ l, y ≤ maxL l
  | [], h => absurd rfl h
  | [x], _ => by simp [maxL]
  | x :: y :: r, _ => by
    obtain ⟨h1, h2⟩ := maxL_spec (l := y :: r) (List.cons_ne_nil _ _)
    unfold maxL
    by_cases hx : x < maxL (y :: r)
    · rw [if_pos hx]
      refine ⟨List.mem_cons_of_mem _ h1, fun z hz => ?_⟩
      rcases List.mem_cons.mp hz with e | e
      · rw [e]; omega
      · exact h2 z e
    · rw [if_neg hx]
      refine ⟨List.mem_cons_self, fun z hz => ?_⟩
      rcases List.mem_cons.mp hz with e | e
      · rw [e]; exact Int.le_refl _
      · have := h2 z e; omega
theorem minL_spec : ∀ {l : List Int}, l ≠ [] → minL l ∈ l ∧ ∀ y ∈ l, minL l ≤ y
  | [], h => absurd rfl h
  | [x], _ => by simp [minL]
  | x :: y :: r, _ => by
    obtain ⟨h1, h2⟩ := minL_spec (l := y :: r) (List.cons_ne_nil _ _)
    unfold minL
    by_cases hx : minL (y :: r) < x
    · rw [if_pos hx]
      refine ⟨List.mem_cons_of_mem _ h1, fun z hz => ?_⟩
      rcases List.mem_cons.mp hz with e | e
      · rw [e]; omega
      · exact h2 z e
    · rw [if_neg hx]
      refine ⟨List.mem_cons_self, fun z hz => ?_⟩
      rcases List.mem_cons.mp hz with e | e
      · rw [e]; exact Int.le_refl _
      · have := h2 z e; omega
theorem maxL_eq {l : List Int} {m : Int} (hm : m ∈ l) (h : ∀ y ∈ l, y ≤ m) : m = maxL l := by
  obtain ⟨h1, h2⟩ := maxL_spec (List.ne_nil_of_mem hm)
  have := h _ h1
  have := h2 _ hm
  omega
theorem minL_eq {l : List Int} {m : Int} (hm : m ∈ l) (h : ∀ y ∈ l, m ≤ y) : m = minL l := by
  obtain ⟨h1, h2⟩ := minL_spec (List.ne_nil_of_mem hm)
  have := h _ h1
  have := h2 _ hm
  omega
theorem intsU_map : ∀ (l : List Int), intsU (l.map .int) = some l
  | [] => rfl
  | x :: r => by rw [List.map_cons]; unfold intsU; rw [intsU_map r]; rfl
def bInts (g : List Int → U) (ne : Bool) (us : List U) (G : Gp) : R U := match us with
  | [u] => match seqU G u with
    | some xs => match intsU xs with
      | some ns => if ne = true ∧ ns = [] then .bad else .ok (g ns) G
      | none => .bad
    | none => .bad
  | _ => .bad
abbrev bSum := bInts (fun ns => .int ns.sum) false
abbrev bMax := bInts (fun ns => .int (maxL ns)) true
abbrev bMin := bInts (fun ns => .int (minL ns)) true
section
variable {K : KZ}
theorem intsU_rel {ρ : List Addr} {H : Hp} : ∀ {xs : List U} {vs : List V} {ns : List Int}, RUs K ρ H xs vs → intsU xs = some ns → vs = ns.map V.int
  | _, _, ns, .nil, h => by cases h; rfl
  | _, _, ns, .cons (x := x) (xs := xs) hx ht, h => by
    cases hx with
    | int i =>
      unfold intsU at h
      cases q : intsU xs with
      | none => rw [q] at h; exact nomatch h
      | some ms =>
        rw [q] at h
        cases h
        rw [intsU_rel ht q]; rfl
    | _ => exact nomatch h
theorem bInts_ok {g : List Int → U} {ne : Bool} {ρ : List Addr} {G : Gp} {H : Hp} {us : List U} {vs : List V} {Q : VK} {E : XK} (S : Sim K ρ G H) (r : RUs K ρ H us vs) (h : Post K (RU K) ρ H (bInts g ne us G) Q E) :
    ∃ (a : Addr) (ns : List Int), vs = [.ref a] ∧ (SqL K.K H a (ns.map V.int) ∨ SqT K.K H a (ns.map V.int)) ∧ (ne = true → ns ≠ []) ∧ Post K (RU K) ρ H (.ok (g ns) G) Q E := by
  unfold bInts at h
  split at h
  · rename_i u
    obtain ⟨v, rfl, rv⟩ := r.one
    cases q : seqU G u with
    | none => rw [q] at h; exact h.elim
    | some xs =>
      rw [q] at h
      simp only at h
      cases q2 : intsU xs with
      | none => rw [q2] at h; exact h.elim
      | some ns =>
        rw [q2] at h
        simp only at h
        obtain ⟨p, ws, rfl, hq, hr⟩ := seqU_ok S rv q
        have e := intsU_rel hr q2
        subst e
        by_cases hn : ne = true ∧ ns = []
        · rw [if_pos hn] at h; exact h.elim
        · rw [if_neg hn] at h
          exact ⟨p, ns, rfl, hq, fun h1 h2 => hn ⟨h1, h2⟩, h⟩
  · exact h.elim
theorem oSum : OpN K (rSumQ K.K) bSum := by
  intro ρ G H us vs Q E S r h
  obtain ⟨a, ns, rfl, hq, _, h⟩ := bInts_ok S r h
  exact ⟨a, ns, rfl, hq, h.end_ S (.int _)⟩
theorem oMax : OpN K (rMaxQ K.K) bMax := by
  intro ρ G H us vs Q E S r h
  obtain ⟨a, ns, rfl, hq, hne, h⟩ := bInts_ok S r h
  refine ⟨a, ns, rfl, hq, List.length_pos_iff.mpr (hne rfl), fun m h1 h2 => ?_⟩
  rw [maxL_eq h1 h2]
  exact h.end_ S (.int _)
theorem oMin : OpN K (rMinQ K.K) bMin := by
  intro ρ G H us vs Q E S r h
  obtain ⟨a, ns, rfl, hq, hne, h⟩ := bInts_ok S r h
  refine ⟨a, ns, rfl, hq, List.length_pos_iff.mpr (hne rfl), fun m h1 h2 => ?_⟩
  rw [minL_eq h1 h2]
  exact h.end_ S (.int _)
end
section
variable {X : Cx} {Z : ZZ X.K} {W : WX} {e e2 : Expr} {es : List Expr} {fa : Ev → Gp → R (List U)} {f : Ev → Gp → R U} {p pos tpos : Pos} {kk : Nat} {elts : List Expr}
theorem fsum (hc : X.calm = true) (hm : X.mg "sum" = none) (ha : FA X Z W [e] fa) (hg : Gl X "sum" := by rfl) (he : starEach [e] X.env = (false, eval e X.env) :: starEach [] X.env := by rfl) (hpl : (backTo pos (starEach [] X.env)).any (·.1) = false := by rfl) : FE X Z W (.Call (.Name "sum" p) [e] [] pos) (eCall bSum fa) :=
  fcallB oSum (crq_sum hc) hg hm (by decide +kernel) ha (by decide) (by decide) he hpl
theorem fmax (hc : X.calm = true) (hm : X.mg "max" = none) (ha : FA X Z W [e] fa) (hg : Gl X "max" := by rfl) (he : starEach [e] X.env = (false, eval e X.env) :: starEach [] X.env := by rfl) (hpl : (backTo pos (starEach [] X.env)).any (·.1) = false := by rfl) : FE X Z W (.Call (.Name "max" p) [e] [] pos) (eCall bMax fa) :=
  fcallB oMax (crq_max hc) hg hm (by decide +kernel) ha (by decide) (by decide) he hpl
theorem fmin (hc : X.calm = true) (hm : X.mg "min" = none) (ha : FA X Z W [e] fa) (hg : Gl X "min" := by rfl) (he : starEach [e] X.env = (false, eval e X.env) :: starEach [] X.env := by rfl) (hpl : (backTo pos (starEach [] X.env)).any (·.1) = false := by rfl) : FE X Z W (.Call (.Name "min" p) [e] [] pos) (eCall bMin fa) :=
  fcallB oMin (crq_min hc) hg hm (by decide +kernel) ha (by decide) (by decide) he hpl
theorem fmax2 (hc : X.calm = true) (hm : X.mg "max" = none) (ha : FA X Z W [e, e2] fa) (hg : Gl X "max" := by rfl) (he : starEach [e, e2] X.env = (false, eval e X.env) :: starEach [e2] X.env := by rfl) (hpl : (backTo pos (starEach [e2] X.env)).any (·.1) = false := by rfl) : FE X Z W (.Call (.Name "max" p) [e, e2] [] pos) (eCall bMax2 fa) :=
  fcallB oMax2 (call_max2 hc) hg hm (by decide +kernel) ha (by decide) (by decide) he hpl
theorem fmin2 (hc : X.calm = true) (hm : X.mg "min" = none) (ha : FA X Z W [e, e2] fa) (hg : Gl X "min" := by rfl) (he : starEach [e, e2] X.env = (false, eval e X.env) :: starEach [e2] X.env := by rfl) (hpl : (backTo pos (starEach [e2] X.env)).any (·.1) = false := by rfl) : FE X Z W (.Call (.Name "min" p) [e, e2] [] pos) (eCall bMin2 fa) :=
  fcallB oMin2 (call_min2 hc) hg hm (by decide +kernel) ha (by decide) (by decide) he hpl
theorem flen (hm : X.mg "len" = none) (ha : FA X Z W [e] fa) (hg : Gl X "len" := by rfl) (he : starEach [e] X.env = (false, eval e X.env) :: starEach [] X.env := by rfl) (hpl : (backTo pos (starEach [] X.env)).any (·.1) = false := by rfl) : FE X Z W (.Call (.Name "len" p) [e] [] pos) (eCall bLen fa) :=
  fcallB oLen call_len hg hm (by decide +kernel) ha (by decide) (by decide) he hpl
theorem fabs (hm : X.mg "abs" = none) (ha : FA X Z W [e] fa) (hg : Gl X "abs" := by rfl) (he : starEach [e] X.env = (false, eval e X.env) :: starEach [] X.env := by rfl) (hpl : (backTo pos (starEach [] X.env)).any (·.1) = false := by rfl) : FE X Z W (.Call (.Name "abs" p) [e] [] pos) (eCall bAbs fa) :=
  fcallB oAbs call_abs hg hm (by decide +kernel) ha (by decide) (by decide) he hpl
theorem fcint (hm : X.mg "int" = none) (ha : FA X Z W [e] fa) (hg : Gl X "int" := by rfl) (he : starEach [e] X.env = (false, eval e X.env) :: starEach [] X.env := by rfl) (hpl : (backTo pos (starEach [] X.env)).any (·.1) = false := by rfl) : FE X Z W (.Call (.Name "int" p) [e] [] pos) (eCall bInt fa) :=
  fcallTy oInt call_int1 hg hm (by decide +kernel) ha (by decide) (by decide) he hpl
theorem fctuple (hm : X.mg "tuple" = none) (ha : FA X Z W [e] fa) (hg : Gl X "tuple" := by rfl) (he : starEach [e] X.env = (false, eval e X.env) :: starEach [] X.env := by rfl) (hpl : (backTo pos (starEach [] X.env)).any (·.1) = false := by rfl) : FE X Z W (.Call (.Name "tuple" p) [e] [] pos) (eCall bTuple fa) :=
  fcallTy oTuple call_tuple_of hg hm (by decide +kernel) ha (by decide) (by decide) he hpl
theorem fclist (hm : X.mg "list" = none) (ha : FA X Z W [e] fa) (hg : Gl X "list" := by rfl) (he : starEach [e] X.env = (false, eval e X.env) :: starEach [] X.env := by rfl) (hpl : (backTo pos (starEach [] X.env)).any (·.1) = false := by rfl) : FE X Z W (.Call (.Name "list" p) [e] [] pos) (eCall bList fa) :=
  fcallTy oList call_list_of hg hm (by decide +kernel) ha (by decide) (by decide) he hpl
/-! ### enumerate, zip, reversed(range) -/
def kEnum (us : List U) (G : Gp) : Option Src := match us with
  | [.tup xs] => some (.items (xs.mapIdx fun i x => .tup [.int (i : Nat), x]))
  | [.rl xs] => some (.items (xs.mapIdx fun i x => .tup [.int (i : Nat), x]))
  | [.ref l] => match G[l]? with
    | some (.lst xs) => some (.live (xs.length + 1) fun i G => match G[l]? with
      | some (.lst ys) => some (ys[i]?.map fun x => .tup [.int (i : Nat), x])
      | _ => none)
    | _ => none
  | _ => none
theorem pair_yld {K : KZ} {ρ : List Addr} {G : Gp} {H : Hp} {u w : U} {v z : V} {T : Addr} (S : Sim K ρ G H) (r : RU K ρ H u v) (q : RU K ρ H w z) (hT : H T = none) :
    Stb K H (upd H T (.tup [v, z])) ∧ Sim K ρ G (upd H T (.tup [v, z])) ∧ RU K ρ (upd H T (.tup [v, z])) (.tup [u, w]) (.ref T) :=
  ⟨stb_new hT, S.tup hT, .tup (.inl upd_same) (.cons (r.mono pre_refl (stb_new hT)) (.cons (q.mono pre_refl (stb_new hT)) .nil))⟩
theorem wk_enumT {K : KZ} {ρ : List Addr} {H : Hp} {xs : List U} {vs : List V} {a : Addr} (h : TupAt K H a vs) (r : RUs K ρ H xs vs) : Wk K ρ H (.items (xs.mapIdx fun i x => .tup [.int (i : Nat), x])) (IteT K.K a) := by
  intro ρ' H' G i p s S
  show match some (xs.mapIdx fun i x => U.tup [.int (i : Nat), x])[i]? with
    | none => True
    | some none => (IteT K.K a).stop i H'
    | some (some u) => (IteT K.K a).go i H' ∧ ∀ x H'', (IteT K.K a).yld i H' x H'' → Stb K H' H'' ∧ Sim K ρ' G H'' ∧ RU K ρ' H'' u x
  have h' := (s.tupAt h).sq
  rw [List.getElem?_mapIdx]
  cases q : xs[i]? with
  | none => exact ⟨vs, h', by rw [← r.len]; exact List.getElem?_eq_none_iff.mp q⟩
  | some u =>
    obtain ⟨v, e, rv⟩ := r.getU q
    refine ⟨⟨vs, v, h', e⟩, fun x H'' y => ?_⟩
    obtain ⟨T, z, rfl, hT, rfl, y⟩ := y
    have := y vs h'
    rw [e] at this; cases this
    exact pair_yld S (.int _) (rv.mono p s) hT
theorem wk_enumR {K : KZ} {ρ : List Addr} {H : Hp} {xs : List U} {vs : List V} {a : Addr} (h : RLs K H a vs) (r : RUs K ρ H xs vs) : Wk K ρ H (.items (xs.mapIdx fun i x => .tup [.int (i : Nat), x])) (Ite K.K a) := by
  intro ρ' H' G i p s S
  show match some (xs.mapIdx fun i x => U.tup [.int (i : Nat), x])[i]? with
    | none => True
    | some none => (Ite K.K a).stop i H'
    | some (some u) => (Ite K.K a).go i H' ∧ ∀ x H'', (Ite K.K a).yld i H' x H'' → Stb K H' H'' ∧ Sim K ρ' G H'' ∧ RU K ρ' H'' u x
  have h' := (s.rls h).sq
  rw [List.getElem?_mapIdx]
  cases q : xs[i]? with
  | none => exact ⟨vs, h', by rw [← r.len]; exact List.getElem?_eq_none_iff.mp q⟩
  | some u =>
    obtain ⟨v, e, rv⟩ := r.getU q
    refine ⟨⟨vs, v, h', e⟩, fun x H'' y => ?_⟩
    obtain ⟨T, z, rfl, hT, rfl, y⟩ := y
    have := y vs h'
    rw [e] at this; cases this
    exact pair_yld S (.int _) (rv.mono p s) hT
theorem wk_enumL {K : KZ} {ρ : List Addr} {H : Hp} {l : Nat} {a : Addr} {n : Nat} (ha : ρ[l]? = some a) : Wk K ρ H (.live n fun i G => match G[l]? with
      | some (.lst ys) => some (ys[i]?.map fun x => .tup [.int (i : Nat), x])
      | _ => none) (Ite K.K a) := by
  intro ρ' H' G i p s S
  show match (match G[l]? with
      | some (.lst ys) => some (ys[i]?.map fun x => .tup [.int (i : Nat), x])
      | _ => none : Option (Option U)) with
    | none => True
    | some none => (Ite K.K a).stop i H'
    | some (some u) => (Ite K.K a).go i H' ∧ ∀ x H'', (Ite K.K a).yld i H' x H'' → Stb K H' H'' ∧ Sim K ρ' G H'' ∧ RU K ρ' H'' u x
  cases q : G[l]? with
  | none => trivial
  | some o =>
    cases o with
    | lst ys =>
      obtain ⟨vs, e, r⟩ := S.list (pre_get p ha) q
      show match some (ys[i]?.map fun x => U.tup [.int (i : Nat), x]) with
        | none => True
        | some none => (Ite K.K a).stop i H'
        | some (some u) => (Ite K.K a).go i H' ∧ ∀ x H'', (Ite K.K a).yld i H' x H'' → Stb K H' H'' ∧ Sim K ρ' G H'' ∧ RU K ρ' H'' u x
      cases q2 : ys[i]? with
      | none => exact ⟨vs, SqL.of e, by rw [← r.len]; exact List.getElem?_eq_none_iff.mp q2⟩
      | some u =>
        obtain ⟨v, e2, rv⟩ := r.getU q2
        refine ⟨⟨vs, v, SqL.of e, e2⟩, fun x H'' y => ?_⟩
        obtain ⟨T, z, rfl, hT, rfl, y⟩ := y
        have := y vs (SqL.of e)
        rw [e2] at this; cases this
        exact pair_yld S (.int _) rv hT
    | _ => trivial
theorem fienum (hm : X.mg "enumerate" = none) (ha : FA X Z W [e] fa) (hg : Gl X "enumerate" := by rfl) (hs : starEach [e] X.env = [(false, eval e X.env)] := by rfl) : FI X Z W (.Tuple elts kk tpos) (.Call (.Name "enumerate" p) [e] [] pos) (iOfs fa kEnum) := by
  refine PIimp (pi_enumA hg hm ha hs) fun σ H Q h => ?_
  refine tG_mono (iSteps h) fun vs H1 ⟨ρ1, G1, us, src, S1, r1, hk, q⟩ => ?_
  unfold kEnum at hk
  split at hk
  · cases hk
    obtain ⟨v, rfl, rv⟩ := r1.one
    cases rv with
    | tup ht hr => exact ⟨_, _, rfl, .inr ⟨ht.sq, q _ (wk_enumT ht hr)⟩⟩
  · cases hk
    obtain ⟨v, rfl, rv⟩ := r1.one
    cases rv with
    | rl ht hr => exact ⟨_, _, rfl, .inl ⟨ht.sq, q _ (wk_enumR ht hr)⟩⟩
  · rename_i l
    obtain ⟨v, rfl, rv⟩ := r1.one
    cases rv with
    | ref ha' =>
      cases q2 : G1[l]? with
      | none => rw [q2] at hk; exact nomatch hk
      | some o =>
        rw [q2] at hk
        cases o with
        | lst xs =>
          cases hk
          obtain ⟨ws, e1, _⟩ := S1.list ha' q2
          exact ⟨_, ws, rfl, .inl ⟨SqL.of e1, q _ (wk_enumL ha')⟩⟩
        | _ => exact nomatch hk
  · exact nomatch hk
/-! reversed(range(a, b)), reversed(range(b)) -/
def kRevR (us : List U) (G : Gp) : Option Src := match us with
  | [.int a, .int b] => if -(2 ^ 62) ≤ a ∧ a < 2 ^ 62 ∧ -(2 ^ 62) ≤ b ∧ b < 2 ^ 62 then some (.live ((b - a).toNat + 1) fun i _ => some (if i < (b - a).toNat then some (.int (a + (((b - a).toNat : Nat) : Int) - 1 + (i : Nat) * (-1))) else none)) else none
  | [.int b] => if -(2 ^ 62) ≤ b ∧ b < 2 ^ 62 then some (.live ((b - 0).toNat + 1) fun i _ => some (if i < (b - 0).toNat then some (.int (0 + (((b - 0).toNat : Nat) : Int) - 1 + (i : Nat) * (-1))) else none)) else none
  | _ => none
theorem wk_rngC {K : KZ} {ρ : List Addr} {H : Hp} {lo c : Int} {n m : Nat} : Wk K ρ H (.live m fun i _ => some (if i < n then some (.int (lo + (i : Nat) * c)) else none)) (Itc lo c n) := by
  intro ρ' H' G i p s S
  show match some (if i < n then some (U.int (lo + (i : Nat) * c)) else none) with
    | none => True
    | some none => (Itc lo c n).stop i H'
    | some (some u) => (Itc lo c n).go i H' ∧ ∀ x H'', (Itc lo c n).yld i H' x H'' → Stb K H' H'' ∧ Sim K ρ' G H'' ∧ RU K ρ' H'' u x
  by_cases hi : i < n
  · rw [if_pos hi]
    refine ⟨hi, fun x H'' y => ?_⟩
    obtain ⟨rfl, rfl⟩ := y
    exact ⟨Stb.refl, S, .int _⟩
  · rw [if_neg hi]; exact Nat.le_of_not_lt hi
theorem firev2 {tg a b : Expr} {f g : Ev → Gp → R U} {p2 pos2 : Pos} (hm : X.mg "reversed" = none) (hm2 : X.mg "range" = none) (ha : FE X Z W a f) (hb : FE X Z W b g) (hg : Gl X "reversed" := by rfl) (hg2 : Gl X "range" := by rfl)
    (na : starEach [a, b] X.env = (false, eval a X.env) :: starEach [b] X.env := by rfl) (nb : starEach [b] X.env = (false, eval b X.env) :: starEach [] X.env := by rfl) (hp : (backTo pos2 (starEach [b] X.env)).any (·.1) = false := by rfl)
    (hs : starEach [.Call (.Name "range" p2) [a, b] [] pos2] X.env = (false, eval (.Call (.Name "range" p2) [a, b] [] pos2) X.env) :: starEach [] X.env := by rfl) : FI X Z W tg (.Call (.Name "reversed" p) [.Call (.Name "range" p2) [a, b] [] pos2] [] pos) (iOfs (aCons f (aCons g aNil)) kRevR) := by
  refine PIimp (pi_revR hg hm (prg_2 hg2 hm2 ha hb na nb hp) hs) fun σ H Q h => ?_
  have h2 := iSteps h
  obtain ⟨ρ, G, env, S, e, h2⟩ := h2
  have h2 : Post (kz X Z) (RUs (kz X Z)) ρ H ((f env G).bind fun x G1 => ((g env G1).bind fun y G2 => R.ok [y] G2).bind fun xs G2 => .ok (x :: xs) G2) (fun vs H1 => ∃ ρ1 G1 us src, Sim (kz X Z) ρ1 G1 H1 ∧ RUs (kz X Z) ρ1 H1 us vs ∧ kRevR us G1 = some src ∧ ∀ J, Wk (kz X Z) ρ1 H1 src J → Q J H1) fun c d H' => W c d σ H' := h2
  have e2 : (fun x G1 => ((g env G1).bind fun y G2 => R.ok [y] G2).bind fun xs G2 => R.ok (x :: xs) G2) = fun x G1 => (g env G1).bind fun y G2 => R.ok [x, y] G2 := by
    funext x G1
    cases g env G1 <;> rfl
  rw [e2] at h2
  refine tG_mono (step (rel := RU (kz X Z)) (rel' := RUs (kz X Z)) S e h2) fun v H1 ⟨ρ1, G1, x, p1, s1, S1, e1, r1, h1⟩ => ?_
  refine tG_mono (step (rel := RU (kz X Z)) (rel' := RUs (kz X Z)) S1 e1 h1) fun w H2 ⟨ρ2, G2, y, p2, s2, S2, e2, r2, h3⟩ => ?_
  obtain ⟨ρ3, G3, us, src, S3, r3, hk, q⟩ := h3 [v, w] ρ2 H2 pre_refl Stb.refl S2 (.cons (r1.mono p2 s2) (.cons r2 .nil))
  unfold kRevR at hk
  split at hk
  · rename_i i j
    split at hk
    · rename_i hb'
      cases hk
      obtain ⟨v', w', ev, rv, rw'⟩ := r3.two
      cases ev
      cases rv
      cases rw'
      exact ⟨i, j, rfl, rfl, hb'.1, hb'.2.1, hb'.2.2.1, hb'.2.2.2, q _ wk_rngC⟩
    · exact nomatch hk
  · obtain ⟨v', ev, _⟩ := r3.one
    cases ev
  · exact nomatch hk
end
end FL

set_option Elab.async false
set_option linter.all false
set_option maxRecDepth 100000
set_option maxHeartbeats 4000000
set_option autoImplicit false
/-! helpers for the printed derivations, the hook, the end -/
namespace FL
open PySem PySem.Spec L2

theorem takesW0 {X : Cx} : Takes X W0 := fun u s' x => by
  obtain ⟨a, B, sI, pins, σ, H, cls, d, e, I, nb, up, sky, na, os, ag, w⟩ := x
  exact w.elim
def badF : List U → Gp → R U := fun _ _ => .bad
theorem fnF_bad {P : Program} {w : World} {K : PySem.W.Frag} {mg : Str → Option Value} {base : Heap} {k : Nat} {f : Addr} {fd : FuncData} {ps : List Str} : FnF P w K mg base k f fd ps badF :=
  ⟨fun vs H Q E h => h.1, fun A outer s H args us vs Q E hr he hb hv hs => by
    obtain ⟨_, Z, ρ, G, us, _, _, _, h⟩ := hs
    exact h.elim⟩
theorem ar_bad {n : Nat} : Ar n badF := fun _ _ _ => rfl

def gAugAdd (x y : U) (G : Gp) : R U := match x, y with
  | .int i, .int j => .ok (.int (i + j)) G
  | _, _ => .bad
def bigN : Nat := 1000000000
theorem isFn_ty {K : PySem.W.Frag} {a : Addr} (h : PySem.W.isFn K (.ref a) = true) : PySem.W.typeIn K (.ref a) = some (.type "function") := eq_of_beq h

/-! ### the facts of a program's errors -/
def anc (t : List (Str × List Str)) (c : Str) : List Str := (t.lookup c).getD []
structure EX (K : PySem.W.Frag) (t : List (Str × List Str)) (ns : List Str) (ks : List (List Str)) (fl : List Str) : Prop where
  exm : ∀ p ∈ t, ∀ x ∈ ns, PySem.W.exmOne K (.ref (He.ga K p.1)) (.ref (He.ga K x)) = some (p.2.contains x)
  kit : ∀ c ∈ t.map (·.1), ∀ xs ∈ ks, PySem.W.kitAny K (.ref (He.ga K c)) (xs.map fun x => .ref (He.ga K x)) = some ((anc t c).any fun a => xs.contains a)
  no : ∀ c ∈ t.map (·.1), ∀ f ∈ fl, PySem.W.findIn K (.ref (He.ga K c)) f = some none
  xi : ∀ c ∈ t.map (·.1), XiK K (He.ga K c)
def exB (t : List (Str × List Str)) (ns : List Str) (ks : List (List Str)) (fl : List Str) (K : PySem.W.Frag) : Bool :=
  (t.all fun p => ns.all fun x => decide (PySem.W.exmOne K (.ref (He.ga K p.1)) (.ref (He.ga K x)) = some (p.2.contains x))) &&
  (((t.map (·.1)).all fun c => ks.all fun xs => decide (PySem.W.kitAny K (.ref (He.ga K c)) (xs.map fun x => .ref (He.ga K x)) = some ((anc t c).any fun a => xs.contains a))) &&
  (((t.map (·.1)).all fun c => fl.all fun f => decide (PySem.W.findIn K (.ref (He.ga K c)) f = some none)) &&
  ((t.map (·.1)).all fun c => xiB K (He.ga K c))))
theorem exB_ok {t : List (Str × List Str)} {ns : List Str} {ks : List (List Str)} {fl : List Str} {K : PySem.W.Frag} (h : exB t ns ks fl K = true) : EX K t ns ks fl := by
  obtain ⟨h1, h⟩ := Bool.and_eq_true_iff.mp h
  obtain ⟨h2, h⟩ := Bool.and_eq_true_iff.mp h
  obtain ⟨h3, h4⟩ := Bool.and_eq_true_iff.mp h
  exact ⟨fun p hp x hx => of_decide_eq_true (List.all_eq_true.mp (List.all_eq_true.mp h1 p hp) x hx),
    fun c hc xs hxs => of_decide_eq_true (List.all_eq_true.mp (List.all_eq_true.mp h2 c hc) xs hxs),
    fun c hc f hf => of_decide_eq_true (List.all_eq_true.mp (List.all_eq_true.mp h3 c hc) f hf),
    fun c hc => xiB_ok (List.all_eq_true.mp h4 c hc)⟩
theorem EX.hx {K : PySem.W.Frag} {t : List (Str × List Str)} {ns : List Str} {ks : List (List Str)} {fl : List Str} (e : EX K t ns ks fl) {x : Str} (hx : x ∈ ns) : ∀ c as, (c, as) ∈ t → PySem.W.exmOne K (.ref (He.ga K c)) (.ref (He.ga K x)) = some (as.contains x) := fun c as h => e.exm (c, as) h x hx
theorem paired_own {K : PySem.W.Frag} : ∀ xs : List Str, Paired ClsV (xs.map fun x => V.ref (He.ga K x)) (xs.map fun x => Value.ref (He.ga K x))
  | [] => .nil
  | _ :: r => .cons (.own _) (paired_own r)
def kitT (t : List (Str × List Str)) (c : Str) (xs : List Str) : Bool := (anc t c).any fun a => xs.contains a
theorem EX.kit1 {K : PySem.W.Frag} {t : List (Str × List Str)} {ns : List Str} {ks : List (List Str)} {fl : List Str} (e : EX K t ns ks fl) {c : Str} (hc : c ∈ t.map (·.1)) {x : Str} (hx : [x] ∈ ks) : PySem.W.kitOne K (.ref (He.ga K c)) (.ref (He.ga K x)) = some (kitT t c [x]) := by
  have h := e.kit c hc [x] hx
  have h : (match PySem.W.kitOne K (.ref (He.ga K c)) (.ref (He.ga K x)) with
    | some true => some true
    | some false => some false
    | none => none) = some (kitT t c [x]) := h
  cases q : PySem.W.kitOne K (.ref (He.ga K c)) (.ref (He.ga K x)) with
  | none => rw [q] at h; exact nomatch h
  | some b => rw [q] at h; cases b <;> exact h

/-! ### the hook: facts, defs, one more Bool -/
abbrev AlL : Type := He.AlD × Bool
def obsL (fa : List He.Fa) (fn : List He.DefD) (ex : PySem.W.Frag → Bool) (K : PySem.W.Frag) : AlL := (He.obsD fa fn K, ex K)
def SaysL (fa : List He.Fa) (fn : List He.DefD) (ex : PySem.W.Frag → Bool) (K : PySem.W.Frag) : Prop := He.SaysD fa fn K ∧ ex K = true
def obsLG (n : Nat) (fa : List He.Fa) (fn : List He.DefD) (ex : PySem.W.Frag → Bool) (g : Addr → Option Obj) : AlL := obsL fa fn ex (He.frG g (He.asD g n))
def hookL (n : Nat) (fa : List He.Fa) (fn : List He.DefD) (ex : PySem.W.Frag → Bool) : PySem.W.Hook where
  α := AlL
  obs := fun s => obsLG n fa fn ex s.heap.get?
  val := fun _ => (He.valD fn, true)
  says := fun _ h => ∃ K : PySem.W.Frag, K.In h ∧ SaysL fa fn ex K
  of := fun _ _ e => ⟨_, He.frG_in, congrArg (fun z : AlL => z.1) e, congrArg (fun z : AlL => z.2) e⟩
  keeps := fun _ _ _ ⟨K, hK, c⟩ k => ⟨K, PySem.W.Frag.In.keeps hK k, c⟩
theorem obsLG_eq {n : Nat} {fa : List He.Fa} {fn : List He.DefD} {ex : PySem.W.Frag → Bool} {g : Addr → Option Obj} {s : Shared} (h : ∀ a, g a = s.heap.get? a) : obsLG n fa fn ex g = (hookL n fa fn ex).obs s := by
  have e : g = s.heap.get? := funext h
  rw [e] <;> rfl

/-! ### the end -/
open PyProof.Rows in
theorem walk_ofEB {l : PySem.W.OpenLaw} {n k : Nat} {q : Program} {loose : List Str} {XP : (Str → Option Value) → Heap → Prop} {YP : World → Heap → Prop} {d : DefRec} {CX : World → CXT} {x : Str}
    (hn : l.most = some n) (hn2 : n ≤ sizeLine) (hdf : d.params.defaults = []) (hr : Room k callerA)
    (F : ∀ (w : World) (mg : Str → Option Value) (fa : Addr) (h : Heap), YP w h → h.Ns mainGlobals mg → mg d.name = some (.ref fa) →
      ∃ (K : PySem.W.Frag) (fd : FuncData) (sp : Sp), K.In h ∧ (∀ (s : Shared) (u : Value), BindsTo s fd ⟨[u], []⟩ [(x, u)]) ∧
        (∀ (H : Hp) (a : Addr) (ns : List Int), ns.length ≤ n → (∀ z ∈ ns, Builtin.Int.intBits z ≤ 1048576) → Only H → SqL K H a (ns.map V.int) → sp [.ref a] H (fun v _ => v = .bl true) fun _ _ _ => False) ∧
        ∀ base : Heap, K.In base → base.Ns mainGlobals mg → FnOk l.prog w K mg base (CX w) k fa fd [x] sp)
    (hCX : ∀ (w : World) (H : Hp) (s : Shared) (e : Value) (s' : Shared), CX w [] H s (fun _ _ _ => False) e s' → False) :
    PySem.W.WalkO q loose XP YP l.row.toRowW d [] (fun f vs => PySem.call f vs) := by
  refine Att.attach_callB hn hdf fun w s₀ s₁ mg mb fa o pm cd doc a vs ns G Y ho hd hcd hmg hobj hints hlen hbits hg => ?_
  obtain ⟨K, fd, sp, KX, hb, hsp, hF⟩ := F w mg fa _ Y G.T.g hmg
  exact law_call KX G.T.g G.T.b G.T.builtins G.T.nolimit hg hobj hints (Nat.le_trans hlen hn2) hr hF hb (fun H hO hS => hsp H a ns hlen hbits hO hS) fun H e s' => hCX w H s₁ e s'
theorem cx_false (P : Program) (w : World) (H : Hp) (s : Shared) (e : Value) (s' : Shared) (h : L2.CX P w [] H s (fun _ _ _ => False) e s') : False := by
  obtain ⟨a, B, H', cls, d, _, _, _, _, _, _, _, h⟩ := h
  exact h
theorem law_sp {K : PySem.W.Frag} {F : List U → Gp → R U} {ns : List Int} {H : Hp} {a : Addr} {E : XK} (h : ∃ G', F [.rl (ns.map U.int)] [] = .ok (.bl true) G') (hO : Only H) (hS : SqL K H a (ns.map V.int)) : spF K 1 F [.ref a] H (fun v _ => v = .bl true) E := by
  obtain ⟨G', h⟩ := h
  refine ⟨rfl, zT, [], [], [.rl (ns.map U.int)], rfl, ⟨rfl, List.nodup_nil, fun l o a h => by simp at h, trivial⟩, .cons (.rl ?_ (RUs.ints ns)) .nil, ?_⟩
  · rcases hS with (h | ⟨o, h⟩) | h
    · rcases hO a with e | ⟨o, xs, e⟩
      · rw [h] at e; cases e
      · rw [h] at e; cases e
    · exact .inl ⟨o, h⟩
    · exact .inr h
  · rw [h]
    intro b ρ' H' p s S r
    cases r
    rfl
end FL

set_option Elab.async false
set_option linter.all false
set_option maxRecDepth 100000
set_option maxHeartbeats 4000000
set_option autoImplicit false
/-! plain tools: what the combinators give -/
namespace FL
open PySem PySem.Spec L2
section
variable {α β : Type} {env env' : Ev} {G G' G1 : Gp}
@[simp] theorem r_bind_ok (a : α) (G : Gp) (k : α → Gp → R β) : (R.ok a G).bind k = k a G := id rfl
@[simp] theorem r_bind_exc (c : Str) (fs : List (Str × U)) (G : Gp) (k : α → Gp → R β) : (R.exc c fs G : R α).bind k = .exc c fs G := id rfl
@[simp] theorem r_bindN_ok (a : α) (G : Gp) (k : α → Gp → R β) : (R.ok a G).bindN k = k a G := id rfl
@[simp] theorem r_then_ok (a : α) (G : Gp) (e : Ev) (k : α → Gp → SR) : (R.ok a G).andThen e k = k a G := id rfl
@[simp] theorem r_then_exc (c : Str) (fs : List (Str × U)) (G : Gp) (e : Ev) (k : α → Gp → SR) : (R.exc c fs G : R α).andThen e k = .exc c fs e G := id rfl
@[simp] theorem eC_ (u : U) : eC u env G = .ok u G := id rfl
@[simp] theorem eVar_ (i : Nat) : eVar i env G = match env[i]? with
  | some (some u) => .ok u G
  | _ => .bad := id rfl
@[simp] theorem eBin_ (g : U → U → Gp → R U) (fa fb : Ev → Gp → R U) : eBin g fa fb env G = (fa env G).bind fun x G1 => (fb env G1).bind fun y G2 => g x y G2 := id rfl
@[simp] theorem eUn_ (g : U → Gp → R U) (fa : Ev → Gp → R U) : eUn g fa env G = (fa env G).bind g := id rfl
@[simp] theorem asB_ok (b : Bool) : asB (.ok (.bl b) G) = .ok b G := id rfl
@[simp] theorem bVal_ (f : Ev → Gp → R U) : bVal f env G = asB (f env G) := id rfl
@[simp] theorem tAndB_ (f g : Ev → Gp → R Bool) : tAndB f g env G = (f env G).bind fun c G1 => if c = true then g env G1 else .ok false G1 := id rfl
@[simp] theorem tOrB_ (f g : Ev → Gp → R Bool) : tOrB f g env G = (f env G).bind fun c G1 => if c = true then .ok true G1 else g env G1 := id rfl
@[simp] theorem tNotB_ (f : Ev → Gp → R Bool) : tNotB f env G = (f env G).bind fun c G1 => .ok (!c) G1 := id rfl
@[simp] theorem eAnd_ (f g : Ev → Gp → R U) : eAnd f g env G = (asB (f env G)).bind fun c G1 => if c = true then g env G1 else .ok (.bl false) G1 := id rfl
@[simp] theorem eOr_ (f g : Ev → Gp → R U) : eOr f g env G = (asB (f env G)).bind fun c G1 => if c = true then .ok (.bl true) G1 else g env G1 := id rfl
@[simp] theorem eNot_ (f : Ev → Gp → R U) : eNot f env G = (asB (f env G)).bind fun c G1 => .ok (.bl (!c)) G1 := id rfl
@[simp] theorem eIf_ (c : Ev → Gp → R Bool) (f g : Ev → Gp → R U) : eIf c f g env G = (c env G).bind fun b G1 => if b = true then f env G1 else g env G1 := id rfl
@[simp] theorem aNil_ : aNil env G = .ok [] G := id rfl
@[simp] theorem aCons_ (f : Ev → Gp → R U) (g : Ev → Gp → R (List U)) : aCons f g env G = (f env G).bind fun x G1 => (g env G1).bind fun xs G2 => .ok (x :: xs) G2 := id rfl
@[simp] theorem eTup_ (g : Ev → Gp → R (List U)) : eTup g env G = (g env G).bind fun xs G1 => if xs.length ≤ 16777216 then .ok (.tup xs) G1 else .bad := id rfl
@[simp] theorem eLst_ (g : Ev → Gp → R (List U)) : eLst g env G = (g env G).bind fun xs G1 => if xs.length ≤ 16777216 then .ok (.ref G1.length) (G1 ++ [.lst xs]) else .bad := id rfl
@[simp] theorem sNil_ : sNil env G = .nx env G := id rfl
@[simp] theorem sSeq_ (g1 g2 : Ev → Gp → SR) : sSeq g1 g2 env G = match g1 env G with
  | .nx env' G' => g2 env' G'
  | r => r := id rfl
theorem seq_nx {g1 g2 : Ev → Gp → SR} {e' : Ev} {G' : Gp} (h : g1 env G = .nx e' G') : sSeq g1 g2 env G = g2 e' G' := by rw [sSeq_, h]
@[simp] theorem sExpr_ (f : Ev → Gp → R U) : sExpr f env G = (f env G).andThen env fun _ G1 => .nx env G1 := id rfl
@[simp] theorem sRet_ (f : Ev → Gp → R U) : sRet f env G = (f env G).andThen env fun u G1 => .ret u G1 := id rfl
@[simp] theorem sRetN_ : sRetN env G = .ret .non G := id rfl
@[simp] theorem sBrk_ : sBrk env G = .brk env G := id rfl
@[simp] theorem sCt_ : sCt env G = .ct env G := id rfl
@[simp] theorem sIf_ (c : Ev → Gp → R Bool) (g1 g2 : Ev → Gp → SR) : sIf c g1 g2 env G = (c env G).andThen env fun b G1 => if b = true then g1 env G1 else g2 env G1 := id rfl
@[simp] theorem sAsg_ (f : Ev → Gp → R U) (gf : U → Ev → Gp → R Ev) : sAsg f gf env G = (f env G).andThen env fun u G1 => (gf u env G1).andThen env fun env' G2 => .nx env' G2 := id rfl
@[simp] theorem gNm_ (i : Nat) (u : U) : gNm i u env G = .ok (env.set i (some u)) G := id rfl
@[simp] theorem gNil_ : gNil [] env G = .ok env G := id rfl
@[simp] theorem gCons_ (g : U → Ev → Gp → R Ev) (gs : List U → Ev → Gp → R Ev) (u : U) (r : List U) : gCons g gs (u :: r) env G = (g u env G).bind fun env' G' => gs r env' G' := id rfl
@[simp] theorem gTup_ (gs : List U → Ev → Gp → R Ev) (n : Nat) (xs : List U) : gTup gs n (.tup xs) env G = if xs.length = n then gs xs env G else .bad := id rfl
@[simp] theorem sAug_ (i : Nat) (g : U → U → Gp → R U) (f : Ev → Gp → R U) : sAug i g f env G = (eVar i env G).andThen env fun x G0 => (f env G0).andThen env fun y G1 => (g x y G1).andThen env fun z G2 => .nx (env.set i (some z)) G2 := id rfl
@[simp] theorem eCall_ (g : List U → Gp → R U) (fa : Ev → Gp → R (List U)) : eCall g fa env G = (fa env G).bind g := id rfl
@[simp] theorem eCallK_ (F : List U → Gp → R U) (a b : Nat) (idx : List Nat) (fa fk : Ev → Gp → R (List U)) : eCallK F a b idx fa fk env G = (fa env G).bind fun us G1 => (fk env G1).bind fun ws G2 => F (gK a b idx us ws) G2 := id rfl
@[simp] theorem eSl_ (f : Ev → Gp → R U) (lo hi : Ev → Gp → R (Option Int)) : eSl f lo hi env G = (f env G).bind fun x G1 => (lo env G1).bind fun l G2 => (hi env G2).bind fun h G3 => gSl x l h G3 := id rfl
@[simp] theorem pNo_ : pNo env G = .ok none G := id rfl
@[simp] theorem pInt_ (f : Ev → Gp → R U) : pInt f env G = (f env G).bind fun u G1 => match u with
  | .int i => .ok (some i) G1
  | _ => .bad := id rfl
@[simp] theorem gSubE_ (fo fi : Ev → Gp → R U) (v : U) : gSubE fo fi v env G = (fo env G).bindN fun o G1 => (fi env G1).bindN fun i G2 => (setU o i v G2).bindN fun _ G3 => .ok env G3 := id rfl
/-- isinstance of a value -/
def isRes (tbl : List (String × Bool)) (u : U) (G : Gp) : R U := match tyN G u with
  | some n => match tbl.lookup n with
    | some b => .ok (.bl b) G
    | none => .bad
  | none => .bad
theorem isRes_of {tbl : List (String × Bool)} {u : U} {n : String} {b : Bool} (h1 : tyN G u = some n) (h2 : tbl.lookup n = some b) : isRes tbl u G = .ok (.bl b) G := by
  unfold isRes
  rw [h1]
  simp only [h2]
@[simp] theorem eIs_ (tbl : List (String × Bool)) (f : Ev → Gp → R U) : eIs tbl f env G = (f env G).bind fun u G1 => isRes tbl u G1 := id rfl
@[simp] theorem eChain_ (g g' : U → U → Gp → R U) (fa fb fc : Ev → Gp → R U) : eChain g g' fa fb fc env G = (fa env G).bind fun x G1 => (fb env G1).bind fun y G2 => (asB (g x y G2)).bind fun k G3 => if k = true then (fc env G3).bind fun z G4 => g' y z G4 else .ok (.bl false) G3 := id rfl
/-! operators on ints -/
@[simp] theorem gAdd_ii (i j : Int) : gAdd (.int i) (.int j) G = .ok (.int (i + j)) G := id rfl
@[simp] theorem gAug_ii (i j : Int) : gAugAdd (.int i) (.int j) G = .ok (.int (i + j)) G := id rfl
@[simp] theorem gSub_ii (i j : Int) : gSub (.int i) (.int j) G = .ok (.int (i - j)) G := id rfl
@[simp] theorem gNeg_i (i : Int) : gNeg (.int i) G = .ok (.int (-i)) G := id rfl
theorem gMul_ii {i j : Int} (h : mulOk i j = true) : gMul (.int i) (.int j) G = .ok (.int (i * j)) G := if_pos h
theorem gFdiv_ii {i j : Int} (h1 : 0 < j) (h2 : j.natAbs < 2 ^ 64) : gFdiv (.int i) (.int j) G = .ok (.int (i / j)) G := if_pos ⟨h1, Nat.lt_of_lt_of_le h2 (Nat.pow_le_pow_right (by decide) (by decide))⟩
theorem gMod_ii {i j : Int} (h1 : 0 < j) : gMod (.int i) (.int j) G = .ok (.int (i % j)) G := if_pos h1
@[simp] theorem gCmp_ii (p : Int → Int → Bool) (i j : Int) : gCmpI p (.int i) (.int j) G = .ok (.bl (p i j)) G := id rfl
@[simp] theorem eqU_ii (i j : Int) : eqU G (.int i) (.int j) = some (decide (i = j)) := id rfl
@[simp] theorem eqU_ss (i j : Str) : eqU G (.str i) (.str j) = some (decide (i = j)) := id rfl
@[simp] theorem eqU_bb (i j : Bool) : eqU G (.bl i) (.bl j) = some (decide (i = j)) := id rfl
@[simp] theorem gEq_ (x y : U) : gEq x y G = match eqU G x y with
  | some b => .ok (.bl b) G
  | none => .bad := id rfl
@[simp] theorem gNe_ (x y : U) : gNe x y G = match eqU G x y with
  | some b => .ok (.bl (!b)) G
  | none => .bad := id rfl
@[simp] theorem gIsN_ (x : U) : gIsN x .non G = .ok (.bl (match x with
    | .non => true
    | _ => false)) G := id rfl
@[simp] theorem gNotN_ (x : U) : gNotN x .non G = .ok (.bl (match x with
    | .non => false
    | _ => true)) G := id rfl
@[simp] theorem bInt_i (i : Int) : bInt [.int i] G = .ok (.int i) G := id rfl
@[simp] theorem bMax2_ii (i j : Int) : bMax2 [.int i, .int j] G = .ok (.int (max i j)) G := by
  show R.ok (U.int (if j > i then j else i)) G = _
  congr 2; split <;> omega
@[simp] theorem bMin2_ii (i j : Int) : bMin2 [.int i, .int j] G = .ok (.int (min i j)) G := by
  show R.ok (U.int (if j < i then j else i)) G = _
  congr 2; split <;> omega
theorem mulOk_small {i j : Int} (h : i.natAbs < 2 ^ 64) : mulOk i j = true := by
  unfold mulOk; simp [h]
theorem mulOk_small2 {i j : Int} (h : j.natAbs < 2 ^ 64) : mulOk i j = true := by
  unfold mulOk; simp [h]
theorem mulOk_bits {i j : Int} (h : Builtin.Int.intBits i ≤ 1048576) (h2 : Builtin.Int.intBits j ≤ 1048576) : mulOk i j = true := by
  unfold mulOk
  have : Builtin.Int.intBits i + Builtin.Int.intBits j ≤ 134217728 := by omega
  simp [this]
/-! sequences -/
@[simp] theorem seqU_tup (xs : List U) : seqU G (.tup xs) = some xs := id rfl
@[simp] theorem seqU_rl (xs : List U) : seqU G (.rl xs) = some xs := id rfl
@[simp] theorem seqU_ref (l : Nat) : seqU G (.ref l) = match G[l]? with
  | some (.lst xs) => some xs
  | _ => none := id rfl
theorem bLen_seq {u : U} {xs : List U} (h : seqU G u = some xs) : bLen [u] G = .ok (.int xs.length) G := by
  cases u with
  | str z => exact nomatch h
  | _ => simp only [bLen, h]
@[simp] theorem bLen_tup (xs : List U) : bLen [.tup xs] G = .ok (.int xs.length) G := id rfl
@[simp] theorem bLen_rl (xs : List U) : bLen [.rl xs] G = .ok (.int xs.length) G := id rfl
theorem bTuple_seq {u : U} {xs : List U} (h : seqU G u = some xs) : bTuple [u] G = .ok (.tup xs) G := by simp only [bTuple, h]
theorem bList_seq {u : U} {xs : List U} (h : seqU G u = some xs) : bList [u] G = .ok (.ref G.length) (G ++ [.lst xs]) := by simp only [bList, h]
theorem gIdx_seq {u : U} {xs : List U} {i : Int} {y : U} (h : seqU G u = some xs) (hi : atI xs i = some y) : gIdx u (.int i) G = .ok y G := by
  cases u with
  | str z => exact nomatch h
  | _ => simp only [gIdx, h, hi]
theorem gIdx_ref {l : Nat} {xs : List U} {i : Int} {y : U} (h : G[l]? = some (.lst xs)) (hi : atI xs i = some y) : gIdx (.ref l) (.int i) G = .ok y G := gIdx_seq (by simp only [seqU, h]) hi
theorem gIdx_tup {xs : List U} {i : Int} {y : U} (hi : atI xs i = some y) : gIdx (.tup xs) (.int i) G = .ok y G := gIdx_seq rfl hi
theorem atI_nat {α : Type} {xs : List α} {i : Nat} (h : i < xs.length) : atI xs (i : Int) = xs[i]? := by
  unfold atI ixN
  rw [if_pos (by omega), if_pos (by omega)]
  rfl
theorem atI_pos {α : Type} {xs : List α} {i : Int} {y : α} (h0 : 0 ≤ i) (h : xs[i.toNat]? = some y) : atI xs i = some y := by
  have hl := (List.getElem?_eq_some_iff.mp h).1
  unfold atI ixN
  rw [if_pos h0, if_pos (by omega)]
  exact h
theorem atI_last {α : Type} {xs : List α} {y : α} (h : xs.getLast? = some y) : atI xs (-1) = some y := by
  have hn : xs ≠ [] := fun e => by rw [e] at h; simp at h
  have hl : 0 < xs.length := List.length_pos_iff.mpr hn
  unfold atI ixN
  rw [if_neg (by omega), if_pos (by omega)]
  rw [List.getLast?_eq_getElem?] at h
  show xs[((-1 : Int) + (xs.length : Int)).toNat]? = some y
  rw [show ((-1 : Int) + (xs.length : Int)).toNat = xs.length - 1 by omega]
  exact h
theorem mAppend_ref {l : Nat} {xs : List U} {y : U} (h : G[l]? = some (.lst xs)) (hl : xs.length < 16777216) : mAppend (.ref l) [y] G = .ok .non (G.set l (.lst (xs ++ [y]))) := by
  simp only [mAppend, h, if_pos hl]
theorem isLst_ref {l : Nat} {xs : List U} (h : G[l]? = some (.lst xs)) : isLst (.ref l) G = true := by simp only [isLst, h]
theorem eMeth_ (g : U → List U → Gp → R U) (fo : Ev → Gp → R U) (fa : Ev → Gp → R (List U)) : eMeth g fo fa env G = (fo env G).bind fun o G1 => if isLst o G1 = true then (fa env G1).bind fun us G2 => g o us G2 else .bad := rfl
theorem setU_ref {l : Nat} {xs : List U} {i : Int} {v : U} (h : G[l]? = some (.lst xs)) (h0 : 0 ≤ i) (h1 : i < xs.length) : setU (.ref l) (.int i) v G = .ok () (G.set l (.lst (xs.set i.toNat v))) := by
  have e : ixN xs.length i = some i.toNat := by unfold ixN; rw [if_pos h0, if_pos h1]
  simp only [setU, h, e]
end
theorem iOfs_ok {f : Ev → Gp → R (List U)} {k : List U → Gp → Option Src} {us : List U} {G G1 : Gp} {env : Ev} {src : Src} (hf : f env G = .ok us G1) (e : k us G1 = some src) : iOfs f k env G = .ok src G1 := by
  unfold iOfs
  rw [hf, r_bind_ok, e]
theorem iOf_ok {f : Ev → Gp → R U} {k : U → Gp → Option Src} {u : U} {G G1 : Gp} {env : Ev} {src : Src} (hf : f env G = .ok u G1) (e : k u G1 = some src) : iOf f k env G = .ok src G1 := by
  unfold iOf
  rw [hf, r_bind_ok, e]
/-! a def's end -/
def fin (r : SR) : R U := match r with
  | .nx _ G' => .ok .non G'
  | .ret u G' => .ok u G'
  | .exc c fs _ G' => .exc c fs G'
  | _ => .bad
@[simp] theorem fin_nx (e : Ev) (G : Gp) : fin (.nx e G) = .ok .non G := id rfl
@[simp] theorem fin_ret (u : U) (G : Gp) : fin (.ret u G) = .ok u G := id rfl
@[simp] theorem fin_exc (c : Str) (fs : List (Str × U)) (e : Ev) (G : Gp) : fin (.exc c fs e G) = .exc c fs G := id rfl
theorem defF_eq {n m : Nat} {g : Ev → Gp → SR} {us : List U} (h : us.length = n) (G : Gp) {e : Ev} (he : startE m us = e) : defF n m g us G = fin (g e G) := by
  subst he
  unfold defF
  rw [if_pos h]
  cases g (startE m us) G <;> rfl
/-! ### loops -/
/-- what holds behind one turn -/
def after (r : SR) (N : Ev → Gp → Prop) (P : SR → Prop) : Prop := match r with
  | .nx e G => N e G
  | .ct e G => N e G
  | .brk e G => P (.nx e G)
  | r => P r
theorem forN_post {nth : Nat → Gp → Option (Option U)} {gf : U → Ev → Gp → R Ev} {body : Ev → Gp → SR} {xs : List U} (I : Nat → Ev → Gp → Prop) (P : SR → Prop)
    (hs : ∀ i env G, i ≤ xs.length → I i env G → nth i G = some xs[i]?) (step : ∀ (i : Nat) (hi : i < xs.length) (env : Ev) (G : Gp), I i env G → after ((gf xs[i] env G).andThen env fun env1 G1 => body env1 G1) (I (i + 1)) P)
    (fin : ∀ env G, I xs.length env G → P (.nx env G)) : ∀ (n i : Nat) (env : Ev) (G : Gp), xs.length < n + i → i ≤ xs.length → I i env G → P (forN nth gf body n i env G) := by
  intro n
  induction n with
  | zero => intro i env G h1 h2 _; omega
  | succ n ih =>
    intro i env G h1 h2 hI
    unfold forN
    rw [hs i env G h2 hI]
    by_cases hi : i < xs.length
    · rw [List.getElem?_eq_getElem hi]
      have st := step i hi env G hI
      simp only
      cases q : gf xs[i] env G with
      | ok e1 G1 =>
        rw [q] at st
        simp only [r_then_ok] at st ⊢
        cases qb : body e1 G1 with
        | nx e2 G2 => rw [qb] at st; exact ih (i + 1) e2 G2 (by omega) hi st
        | ct e2 G2 => rw [qb] at st; exact ih (i + 1) e2 G2 (by omega) hi st
        | brk e2 G2 => rw [qb] at st; exact st
        | ret u G2 => rw [qb] at st; exact st
        | exc c fs e2 G2 => rw [qb] at st; exact st
        | bad => rw [qb] at st; exact st
      | exc c fs G1 => rw [q] at st; exact st
      | bad => rw [q] at st; exact st
    · have e : i = xs.length := by omega
      subst e
      rw [List.getElem?_eq_none (Nat.le_refl _)]
      exact fin env G hI
/-- a source gives these items, as long as I holds -/
def Gives (src : Src) (xs : List U) (I : Nat → Ev → Gp → Prop) : Prop := xs.length < src.fuel ∧ ∀ i env G, i ≤ xs.length → I i env G → src.at_ i G = some xs[i]?
theorem gives_items {xs : List U} {I : Nat → Ev → Gp → Prop} : Gives (.items xs) xs I := ⟨Nat.lt_succ_self _, fun _ _ _ _ _ => rfl⟩
theorem sFor_post {fi : Ev → Gp → R Src} {gf : U → Ev → Gp → R Ev} {body : Ev → Gp → SR} {env : Ev} {G G1 : Gp} {src : Src} {xs : List U} (I : Nat → Ev → Gp → Prop) (P : SR → Prop) (hf : fi env G = .ok src G1) (hs : Gives src xs I) (h0 : I 0 env G1)
    (step : ∀ (i : Nat) (hi : i < xs.length) (env : Ev) (G : Gp), I i env G → after ((gf xs[i] env G).andThen env fun env1 G1 => body env1 G1) (I (i + 1)) P)
    (fin : ∀ env G, I xs.length env G → P (.nx env G)) : P (sFor fi gf body env G) := by
  unfold sFor
  rw [hf]
  simp only [r_then_ok]
  rw [sFor_run]
  exact forN_post (nth := src.nth) I P (fun i env G h1 h2 => hs.2 i env G h1 h2) step fin src.fuel 0 env G1 (by have := hs.1; omega) (Nat.zero_le _) h0
def rng (lo : Int) (n : Nat) : List U := (List.range n).map fun i => .int (lo + (i : Nat))
@[simp] theorem rng_len (lo : Int) (n : Nat) : (rng lo n).length = n := by simp [rng]
theorem rng_get {lo : Int} {n i : Nat} (h : i < (rng lo n).length) : (rng lo n)[i] = .int (lo + (i : Nat)) := by simp [rng]
theorem rng_get? (lo : Int) (n i : Nat) : (rng lo n)[i]? = if i < n then some (.int (lo + (i : Nat))) else none := by
  by_cases h : i < n
  · rw [if_pos h, List.getElem?_eq_getElem (by simpa using h), rng_get]
  · rw [if_neg h]; exact List.getElem?_eq_none (by simpa using h)
theorem p62 : (2 : Int) ^ 62 = 4611686018427387904 := by decide
theorem gives_rng1 {I : Nat → Ev → Gp → Prop} {j : Int} (h1 : -4611686018427387904 ≤ j) (h2 : j < 4611686018427387904) {G : Gp} : ∃ src, kRng1 [.int j] G = some src ∧ Gives src (rng 0 j.toNat) I :=
  ⟨.live (j.toNat + 1) fun i _ => some (if i < j.toNat then some (.int (0 + (i : Nat))) else none), if_pos ⟨by rw [p62]; exact h1, by rw [p62]; exact h2⟩, by simp [Src.fuel], fun i env G _ _ => congrArg some (rng_get? 0 j.toNat i).symm⟩
theorem gives_rng2 {I : Nat → Ev → Gp → Prop} {a j : Int} (h1 : -4611686018427387904 ≤ a) (h2 : a < 4611686018427387904) (h3 : -4611686018427387904 ≤ j) (h4 : j < 4611686018427387904) {G : Gp} : ∃ src, kRng2 [.int a, .int j] G = some src ∧ Gives src (rng a (j - a).toNat) I :=
  ⟨.live ((j - a).toNat + 1) fun i _ => some (if i < (j - a).toNat then some (.int (a + (i : Nat))) else none), if_pos ⟨by rw [p62]; exact h1, by rw [p62]; exact h2, by rw [p62]; exact h3, by rw [p62]; exact h4⟩, by simp [Src.fuel], fun i env G _ _ => congrArg some (rng_get? a (j - a).toNat i).symm⟩
theorem gives_ref {I : Nat → Ev → Gp → Prop} {l : Nat} {xs : List U} {G : Gp} (h : G[l]? = some (.lst xs)) (hI : ∀ i env G, I i env G → G[l]? = some (.lst xs)) : ∃ src, kSeq (.ref l) G = some src ∧ Gives src xs I := by
  refine ⟨.live (xs.length + 1) fun i G => match G[l]? with
    | some (.lst ys) => some ys[i]?
    | _ => none, by unfold kSeq; (simp only [h] <;> rfl), by simp [Src.fuel], fun i env G hi h2 => ?_⟩
  show (match G[l]? with
    | some (.lst ys) => some ys[i]?
    | _ => none) = _
  rw [hI i env G h2]
/-! for over written items, as a fold -/
theorem sFor_rng1 {fa : Ev → Gp → R (List U)} {gf : U → Ev → Gp → R Ev} {body : Ev → Gp → SR} {env : Ev} {G G1 : Gp} {j : Int} (I : Nat → Ev → Gp → Prop) (P : SR → Prop) (hf : fa env G = .ok [.int j] G1) (h1 : -4611686018427387904 ≤ j) (h2 : j < 4611686018427387904) (h0 : I 0 env G1)
    (step : ∀ (i : Nat) (hi : i < j.toNat) (env : Ev) (G : Gp), I i env G → after ((gf (.int (i : Nat)) env G).andThen env fun env1 G1 => body env1 G1) (I (i + 1)) P)
    (fin : ∀ env G, I j.toNat env G → P (.nx env G)) : P (sFor (iOfs fa kRng1) gf body env G) := by
  obtain ⟨src, e, g⟩ := gives_rng1 (I := I) h1 h2 (G := G1)
  refine sFor_post (src := src) (G1 := G1) I P (iOfs_ok hf e) g h0 (fun i hi env G hI => ?_) (fun env G hI => fin env G (by simpa using hI))
  rw [rng_get]
  have := step i (by simpa using hi) env G hI
  rw [show (0 : Int) + ((i : Nat) : Int) = ((i : Nat) : Int) by omega]
  exact this
theorem sFor_rng2 {fa : Ev → Gp → R (List U)} {gf : U → Ev → Gp → R Ev} {body : Ev → Gp → SR} {env : Ev} {G G1 : Gp} {a j : Int} (I : Nat → Ev → Gp → Prop) (P : SR → Prop) (hf : fa env G = .ok [.int a, .int j] G1) (h1 : -4611686018427387904 ≤ a) (h2 : a < 4611686018427387904) (h3 : -4611686018427387904 ≤ j) (h4 : j < 4611686018427387904) (h0 : I 0 env G1)
    (step : ∀ (i : Nat) (hi : i < (j - a).toNat) (env : Ev) (G : Gp), I i env G → after ((gf (.int (a + (i : Nat))) env G).andThen env fun env1 G1 => body env1 G1) (I (i + 1)) P)
    (fin : ∀ env G, I (j - a).toNat env G → P (.nx env G)) : P (sFor (iOfs fa kRng2) gf body env G) := by
  obtain ⟨src, e, g⟩ := gives_rng2 (I := I) h1 h2 h3 h4 (G := G1)
  refine sFor_post (src := src) (G1 := G1) I P (iOfs_ok hf e) g h0 (fun i hi env G hI => ?_) (fun env G hI => fin env G (by simpa using hI))
  rw [rng_get]
  exact step i (by simpa using hi) env G hI
theorem sFor_tup {f : Ev → Gp → R U} {gf : U → Ev → Gp → R Ev} {body : Ev → Gp → SR} {env : Ev} {G G1 : Gp} {xs : List U} (I : Nat → Ev → Gp → Prop) (P : SR → Prop) (hf : f env G = .ok (.tup xs) G1) (h0 : I 0 env G1)
    (step : ∀ (i : Nat) (hi : i < xs.length) (env : Ev) (G : Gp), I i env G → after ((gf xs[i] env G).andThen env fun env1 G1 => body env1 G1) (I (i + 1)) P)
    (fin : ∀ env G, I xs.length env G → P (.nx env G)) : P (sFor (iOf f kSeq) gf body env G) :=
  sFor_post (src := .items xs) (G1 := G1) I P (by simp [iOf, hf, kSeq]) gives_items h0 step fin
theorem sFor_ref {f : Ev → Gp → R U} {gf : U → Ev → Gp → R Ev} {body : Ev → Gp → SR} {env : Ev} {G G1 : Gp} {l : Nat} {xs : List U} (I : Nat → Ev → Gp → Prop) (P : SR → Prop) (hf : f env G = .ok (.ref l) G1) (hl : G1[l]? = some (.lst xs)) (hI : ∀ i env G, I i env G → G[l]? = some (.lst xs)) (h0 : I 0 env G1)
    (step : ∀ (i : Nat) (hi : i < xs.length) (env : Ev) (G : Gp), I i env G → after ((gf xs[i] env G).andThen env fun env1 G1 => body env1 G1) (I (i + 1)) P)
    (fin : ∀ env G, I xs.length env G → P (.nx env G)) : P (sFor (iOf f kSeq) gf body env G) := by
  obtain ⟨src, e, g⟩ := gives_ref (I := I) hl hI
  exact sFor_post (src := src) (G1 := G1) I P (iOf_ok hf e) g h0 step fin
/-! while: a measure -/
theorem while_post {fc : Ev → Gp → R Bool} {body : Ev → Gp → SR} (I : Ev → Gp → Prop) (m : Ev → Gp → Nat) (P : SR → Prop)
    (step : ∀ env G, I env G → ∃ b, ∃ G1, fc env G = .ok b G1 ∧ (b = true → after (body env G1) (fun e G' => I e G' ∧ m e G' < m env G) P) ∧ (b = false → P (.nx env G1))) : ∀ (n : Nat) (env : Ev) (G : Gp), I env G → m env G < n → P (whileN fc body n env G) := by
  intro n
  induction n with
  | zero => intro env G _ h; omega
  | succ n ih =>
    intro env G hI hm
    obtain ⟨b, G1, e, h1, h2⟩ := step env G hI
    unfold whileN
    rw [e]
    simp only [r_then_ok]
    cases b with
    | false => exact h2 rfl
    | true =>
      have h1 := h1 rfl
      rw [if_pos rfl]
      cases qb : body env G1 with
      | nx e2 G2 => rw [qb] at h1; exact ih e2 G2 h1.1 (by have := h1.2; omega)
      | ct e2 G2 => rw [qb] at h1; exact ih e2 G2 h1.1 (by have := h1.2; omega)
      | brk e2 G2 => rw [qb] at h1; exact h1
      | ret u G2 => rw [qb] at h1; exact h1
      | exc c fs e2 G2 => rw [qb] at h1; exact h1
      | bad => rw [qb] at h1; exact h1
/-! comprehensions -/
theorem compN_post {nth : Nat → Gp → Option (Option U)} {gf : U → Ev → Gp → R Ev} {ft : Ev → Gp → R Bool} {fe : Ev → Gp → R U} {l : Nat} {env0 : Ev} {xs : List U} (I : Nat → List U → Gp → Prop) (P : R U → Prop)
    (hs : ∀ i acc G, i ≤ xs.length → I i acc G → nth i G = some xs[i]?) (hlen : xs.length < 16777216)
    (step : ∀ (i : Nat) (hi : i < xs.length) (acc : List U) (G : Gp), I i acc G → G[l]? = some (.lst acc) → ∃ env1 G1 b G2, gf xs[i] env0 G = .ok env1 G1 ∧ ft env1 G1 = .ok b G2 ∧ (b = true → ∃ y G3, fe env1 G2 = .ok y G3 ∧ G3[l]? = some (.lst acc) ∧ I (i + 1) (acc ++ [y]) (G3.set l (.lst (acc ++ [y])))) ∧ (b = false → G2[l]? = some (.lst acc) ∧ I (i + 1) acc G2))
    (fin : ∀ acc G, acc.length ≤ xs.length → I xs.length acc G → G[l]? = some (.lst acc) → P (.ok (.ref l) G)) : ∀ (n i : Nat) (acc : List U) (G : Gp), xs.length < n + i → i ≤ xs.length → acc.length ≤ i → I i acc G → G[l]? = some (.lst acc) → P (compN nth gf ft fe l env0 n i G) := by
  intro n
  induction n with
  | zero => intro i acc G h1 h2 _ _ _; omega
  | succ n ih =>
    intro i acc G h1 h2 ha hI hl
    unfold compN
    rw [hs i acc G h2 hI]
    by_cases hi : i < xs.length
    · rw [List.getElem?_eq_getElem hi]
      obtain ⟨env1, G1, b, G2, e1, e2, h3, h4⟩ := step i hi acc G hI hl
      simp only [e1, e2, r_bindN_ok]
      cases b with
      | false =>
        obtain ⟨h5, h6⟩ := h4 rfl
        rw [if_neg (by decide)]
        exact ih (i + 1) acc G2 (by omega) hi (by omega) h6 h5
      | true =>
        obtain ⟨y, G3, e3, h5, h6⟩ := h3 rfl
        rw [if_pos rfl]
        simp only [e3, r_bindN_ok, h5]
        rw [if_pos (by omega)]
        refine ih (i + 1) (acc ++ [y]) _ (by omega) hi (by simp; omega) h6 ?_
        rw [List.getElem?_set_self (List.getElem?_eq_some_iff.mp h5).1]
    · have e : i = xs.length := by omega
      subst e
      rw [List.getElem?_eq_none (Nat.le_refl _)]
      exact fin acc G ha hI hl
theorem eComp_post {own : List Nat} {fi : Ev → Gp → R Src} {gf : U → Ev → Gp → R Ev} {ft : Ev → Gp → R Bool} {fe : Ev → Gp → R U} {env : Ev} {G G1 : Gp} {src : Src} {xs : List U} (I : Nat → List U → Gp → Prop) (P : R U → Prop) (hf : fi env G = .ok src G1)
    (hs : xs.length < src.fuel ∧ ∀ i acc G, i ≤ xs.length → I i acc G → src.at_ i G = some xs[i]?) (hlen : xs.length < 16777216) (h0 : I 0 [] (G1 ++ [.lst []]))
    (step : ∀ (i : Nat) (hi : i < xs.length) (acc : List U) (G : Gp), I i acc G → G[G1.length]? = some (.lst acc) → ∃ env1 G1' b G2, gf xs[i] (wipeE env own) G = .ok env1 G1' ∧ ft env1 G1' = .ok b G2 ∧ (b = true → ∃ y G3, fe env1 G2 = .ok y G3 ∧ G3[G1.length]? = some (.lst acc) ∧ I (i + 1) (acc ++ [y]) (G3.set G1.length (.lst (acc ++ [y])))) ∧ (b = false → G2[G1.length]? = some (.lst acc) ∧ I (i + 1) acc G2))
    (fin : ∀ acc G, acc.length ≤ xs.length → I xs.length acc G → G[G1.length]? = some (.lst acc) → P (.ok (.ref G1.length) G)) : P (eComp own fi gf ft fe env G) := by
  unfold eComp
  rw [hf]
  simp only [r_bind_ok]
  rw [eComp_run]
  exact compN_post (nth := src.nth) I P (fun i acc G h1 h2 => hs.2 i acc G h1 h2) hlen step fin src.fuel 0 [] _ (by have := hs.1; omega) (Nat.zero_le _) (Nat.le_refl _) h0 (by simp)
/-! equal lists of ints -/
def dInts (ns : List Int) : List PyData := ns.map PyData.int
theorem toD_ints (n : Nat) (G : Gp) : ∀ ns : List Int, optAll (toD G n) (ns.map U.int) = some (dInts ns)
  | [] => rfl
  | i :: r => by
    have h : toD G n (.int i) = some (.int i) := by cases n <;> rfl
    rw [List.map_cons]
    unfold optAll
    rw [h, toD_ints n G r]
    rfl
theorem lay_ints : ∀ ns : List Int, PyData.canLayAll0 (dInts ns) = true
  | [] => by simp [dInts, PyData.canLayAll0]
  | i :: r => by
    have := lay_ints r
    unfold dInts at *
    simp [PyData.canLayAll0, PyData.canLay0, this]
theorem depth_ints : ∀ ns : List Int, PyData.depthAll (dInts ns) = 0
  | [] => by simp [dInts, PyData.depthAll]
  | i :: r => by
    have := depth_ints r
    unfold dInts at *
    simp [PyData.depthAll, PyData.depth, this]
theorem eqv_ints : ∀ ns ms : List Int, PyData.eqvAll (dInts ns) (dInts ms) = decide (ns = ms)
  | [], [] => by simp [dInts, PyData.eqvAll]
  | [], _ :: _ => by simp [dInts, PyData.eqvAll]
  | _ :: _, [] => by simp [dInts, PyData.eqvAll]
  | i :: r, j :: s => by
    have := eqv_ints r s
    unfold dInts at *
    simp only [List.map_cons, PyData.eqvAll, PyData.eqv, this, List.cons.injEq, Bool.decide_and]
    congr 1
theorem shaped_list (ns : List Int) : SeqAt.shaped (.list (dInts ns)) = true := by
  unfold SeqAt.shaped
  simp [PyData.canLay0, lay_ints, PyData.depth, depth_ints]
theorem shaped_tup (ns : List Int) : SeqAt.shaped (.tuple (dInts ns)) = true := by
  unfold SeqAt.shaped
  simp [PyData.canLay0, lay_ints, PyData.depth, depth_ints]
theorem eqU_refs {G : Gp} {l m : Nat} {ns ms : List Int} (h1 : G[l]? = some (.lst (ns.map .int))) (h2 : G[m]? = some (.lst (ms.map .int))) : eqU G (.ref l) (.ref m) = some (decide (ns = ms)) := by
  have e1 : toD G 40 (.ref l) = some (.list (dInts ns)) := by
    show (match G[l]? with
      | some (.lst xs) => (optAll (toD G 39) xs).map PyData.list
      | _ => none) = _
    rw [h1]; simp only [toD_ints]; rfl
  have e2 : toD G 40 (.ref m) = some (.list (dInts ms)) := by
    show (match G[m]? with
      | some (.lst xs) => (optAll (toD G 39) xs).map PyData.list
      | _ => none) = _
    rw [h2]; simp only [toD_ints]; rfl
  show (match toD G 40 (.ref l), toD G 40 (.ref m) with
    | some d, some e => if SeqAt.shaped d = true ∧ SeqAt.shaped e = true then some (PyData.eqv d e) else none
    | _, _ => none) = _
  rw [e1, e2]
  simp only [shaped_list, and_self, if_true, PyData.eqv, eqv_ints]
end FL

set_option Elab.async false
set_option linter.all false
set_option maxRecDepth 100000
set_option maxHeartbeats 4000000
set_option autoImplicit false
/-! all, any of a list of bools; list.insert -/
namespace FL
open PySem PySem.Spec L2
def boolsU : List U → Option (List Bool)
  | [] => some []
  | .bl b :: r => (boolsU r).map (b :: ·)
  | _ => none
theorem boolsU_map : ∀ l : List Bool, boolsU (l.map .bl) = some l
  | [] => rfl
  | x :: r => by rw [List.map_cons]; unfold boolsU; rw [boolsU_map r]; rfl
def bBools (g : List Bool → Bool) (us : List U) (G : Gp) : R U := match us with
  | [.ref l] => match G[l]? with
    | some (.lst xs) => match boolsU xs with
      | some bs => .ok (.bl (g bs)) G
      | none => .bad
    | _ => .bad
  | _ => .bad
abbrev bAll := bBools (fun bs => bs.all id)
abbrev bAny := bBools (fun bs => bs.any id)
theorem bBools_ref {g : List Bool → Bool} {l : Nat} {bs : List Bool} {G : Gp} (h : G[l]? = some (.lst (bs.map .bl))) : bBools g [.ref l] G = .ok (.bl (g bs)) G := by
  unfold bBools
  simp only [h, boolsU_map]
section
variable {K : KZ}
theorem boolsU_rel {ρ : List Addr} {H : Hp} : ∀ {xs : List U} {vs : List V} {bs : List Bool}, RUs K ρ H xs vs → boolsU xs = some bs → vs = bs.map V.bl
  | _, _, bs, .nil, h => by cases h; rfl
  | _, _, bs, .cons (x := x) (xs := xs) hx ht, h => by
    cases hx with
    | bl i =>
      unfold boolsU at h
      cases q : boolsU xs with
      | none => rw [q] at h; exact nomatch h
      | some ms =>
        rw [q] at h
        cases h
        rw [boolsU_rel ht q]; rfl
    | _ => exact nomatch h
theorem bBools_ok {g : List Bool → Bool} {ρ : List Addr} {G : Gp} {H : Hp} {us : List U} {vs : List V} {Q : VK} {E : XK} (S : Sim K ρ G H) (r : RUs K ρ H us vs) (h : Post K (RU K) ρ H (bBools g us G) Q E) :
    ∃ (a : Addr) (bs : List Bool), vs = [.ref a] ∧ SqL K.K H a (bs.map V.bl) ∧ Q (.bl (g bs)) H := by
  unfold bBools at h
  split at h
  · rename_i l
    obtain ⟨v, rfl, rv⟩ := r.one
    cases rv with
    | @ref _ a ha =>
      cases q : G[l]? with
      | none => rw [q] at h; exact h.elim
      | some o =>
        rw [q] at h
        cases o with
        | lst xs =>
          simp only at h
          cases q2 : boolsU xs with
          | none => rw [q2] at h; exact h.elim
          | some bs =>
            rw [q2] at h
            obtain ⟨ws, e1, r1⟩ := S.list ha q
            have e := boolsU_rel r1 q2
            subst e
            exact ⟨a, bs, rfl, SqL.of e1, h.end_ S (.bl _)⟩
        | _ => exact h.elim
  · exact h.elim
theorem oAll : OpN K (rAll K.K) bAll := by
  intro ρ G H us vs Q E S r h
  exact bBools_ok S r h
theorem oAny : OpN K (rAny K.K) bAny := by
  intro ρ G H us vs Q E S r h
  exact bBools_ok S r h
def rInsert : V → List V → Hp → VK → Prop := fun x vs H Q => ∃ (l : Addr) (xs : List V) (i : Int) (y : V), x = .ref l ∧ vs = [.int i, y] ∧ H l = some (.lst xs) ∧ xs.length < sizeLine ∧ 0 ≤ i ∧ i < 2 ^ 63 ∧
    Q .non (upd H l (.lst (xs.take i.toNat ++ [y] ++ xs.drop i.toNat)))
def mInsert (x : U) (us : List U) (G : Gp) : R U := match x, us with
  | .ref l, [.int i, y] => if 0 ≤ i ∧ i < 2 ^ 63 then match G[l]? with
    | some (.lst xs) => if xs.length < 16777216 then .ok .non (G.set l (.lst (xs.take i.toNat ++ [y] ++ xs.drop i.toNat))) else .bad
    | _ => .bad
    else .bad
  | _, _ => .bad
theorem mInsert_ref {l : Nat} {xs : List U} {y : U} {i : Int} {G : Gp} (h : G[l]? = some (.lst xs)) (h0 : 0 ≤ i) (h1 : i < 2 ^ 63) (hl : xs.length < 16777216) : mInsert (.ref l) [.int i, y] G = .ok .non (G.set l (.lst (xs.take i.toNat ++ [y] ++ xs.drop i.toNat))) := by
  unfold mInsert
  simp only [if_pos (And.intro h0 h1), h, if_pos hl]
theorem oInsert : OpM K rInsert mInsert := by
  intro ρ G H x v us vs Q E S rx rs h
  unfold mInsert at h
  split at h
  · rename_i l i y
    by_cases hi : 0 ≤ i ∧ i < 2 ^ 63
    · rw [if_pos hi] at h
      cases rx with
      | @ref _ a ha =>
        obtain ⟨w0, w1, rfl, rw0, rw1⟩ := rs.two
        cases rw0
        cases q : G[l]? with
        | none => rw [q] at h; exact h.elim
        | some o =>
          rw [q] at h
          cases o with
          | lst xs =>
            obtain ⟨ws, e, r⟩ := S.list ha q
            simp only at h
            by_cases hl : xs.length < 16777216
            · rw [if_pos hl] at h
              exact ⟨a, ws, i, w1, rfl, rfl, e, by rw [← r.len, line_eq]; exact hl, hi.1, hi.2, updEnd (xs := xs) S ha e (((r.take i.toNat).append (.cons rw1 .nil)).append (r.drop i.toNat)) .non h⟩
            · rw [if_neg hl] at h; exact h.elim
          | _ => exact h.elim
    · rw [if_neg hi] at h; exact h.elim
  · exact h.elim
end
section
variable {X : Cx} {Z : ZZ X.K} {W : WX} {e : Expr} {fa : Ev → Gp → R (List U)} {p pos : Pos}
theorem mtInsert : MtR X "list.insert" rInsert := mt_insert
theorem fall (hc : X.calm = true) (hm : X.mg "all" = none) (ha : FA X Z W [e] fa) (hg : Gl X "all" := by rfl) (he : starEach [e] X.env = (false, eval e X.env) :: starEach [] X.env := by rfl) (hpl : (backTo pos (starEach [] X.env)).any (·.1) = false := by rfl) : FE X Z W (.Call (.Name "all" p) [e] [] pos) (eCall bAll fa) :=
  fcallB oAll (cr_all hc) hg hm (by decide +kernel) ha (by decide) (by decide) he hpl
theorem fany (hc : X.calm = true) (hm : X.mg "any" = none) (ha : FA X Z W [e] fa) (hg : Gl X "any" := by rfl) (he : starEach [e] X.env = (false, eval e X.env) :: starEach [] X.env := by rfl) (hpl : (backTo pos (starEach [] X.env)).any (·.1) = false := by rfl) : FE X Z W (.Call (.Name "any" p) [e] [] pos) (eCall bAny fa) :=
  fcallB oAny (cr_any hc) hg hm (by decide +kernel) ha (by decide) (by decide) he hpl
end
end FL

set_option Elab.async false
set_option linter.all false
set_option maxRecDepth 100000
set_option maxHeartbeats 8000000
set_option autoImplicit false

namespace K02
open PySem PySem.Spec L2 FL
set_option maxRecDepth 100000
def exT : List (Str × List Str) := [("InvalidNumber", ["InvalidNumber", "DealError"]), ("InvalidRow", ["InvalidRow", "DealError"])]
def g__law_draws_1 : Ev → Gp → SR := (sSeq (sExpr (eMeth mAppend (eVar 1) (aCons (eBin gMod (eCall bInt (aCons (eVar 4) aNil)) (eC (.int 1000000))) aNil))) (sAsg (eBin gFdiv (eVar 4) (eC (.int 1000000))) (gNm 4)))
def g__law_draws_2 : Ev → Gp → SR := (sIf (bVal (eBin gGt (eVar 4) (eC (.int 0)))) g__law_draws_1 sNil)
def g__law_draws_3 : Ev → Gp → SR := (sSeq (sAsg (eCall bInt (aCons (eVar 3) aNil)) (gNm 4)) (sFor (iOfs (aCons (eC (.int 60)) aNil) kRng1) (gNm 5) g__law_draws_2))
def g__law_draws_4 : Ev → Gp → SR := (sSeq (sAsg (eBin gMod (eCall bInt (aCons (eBin gAdd (eBin gAdd (eBin gAdd (eBin gMul (eVar 3) (eVar 3)) (eVar 3)) (eBin gMul (eVar 2) (eC (.int 48271)))) (eC (.int 12345))) aNil)) (eC (.int 1000000007))) (gNm 2)) (sSeq (sAsg (eBin gMod (eCall bInt (aCons (eBin gAdd (eBin gMul (eVar 2) (eVar 2)) (eC (.int 69621))) aNil)) (eC (.int 998244353))) (gNm 2)) (sExpr (eMeth mAppend (eVar 1) (aCons (eVar 2) aNil)))))
def g__law_draws_5 : Ev → Gp → SR := (sIf (bVal (eBin gGe (eVar 3) (eBin gPow (eC (.int 10)) (eC (.int 18))))) g__law_draws_3 g__law_draws_4)
def g__law_draws_6 : Ev → Gp → SR := (sSeq (sAsg (eBin gMod (eCall bInt (aCons (eBin gAdd (eBin gAdd (eBin gAdd (eBin gMul (eVar 2) (eVar 2)) (eBin gMul (eC (.int 69621)) (eVar 5))) (eCall bLen (aCons (eVar 1) aNil))) (eC (.int 31))) aNil)) (eC (.int 1000000007))) (gNm 2)) (sExpr (eMeth mAppend (eVar 1) (aCons (eVar 2) aNil))))
def g__law_draws : Ev → Gp → SR := (sSeq (sAsg (eLst aNil) (gNm 1)) (sSeq (sAsg (eC (.int 97)) (gNm 2)) (sSeq (sFor (iOf (eSl (eVar 0) pNo (pInt (eC (.int 63)))) kSeq) (gNm 3) g__law_draws_5) (sSeq (sFor (iOfs (aCons (eC (.int 16)) aNil) kRng1) (gNm 5) g__law_draws_6) (sRet (eVar 1))))))
def F__law_draws : List U → Gp → R U := defF 1 6 g__law_draws
theorem ar__law_draws : Ar 1 F__law_draws := ar_defF
theorem run__law_draws (x0 : U) (G : Gp) : F__law_draws [x0] G = fin (g__law_draws [some x0, none, none, none, none, none] G) := defF_eq rfl G rfl
def g__law_next : Ev → Gp → SR := (sSeq (sAsg (eMeth mPopAt (eVar 0) (aCons (eC (.int 0)) aNil)) (gNm 2)) (sSeq (sExpr (eMeth mAppend (eVar 0) (aCons (eBin gMod (eCall bInt (aCons (eBin gAdd (eBin gAdd (eBin gMul (eVar 2) (eVar 2)) (eBin gMul (eBin gIdx (eVar 0) (eUn gNeg (eC (.int 1)))) (eC (.int 48271)))) (eC (.int 12345))) aNil)) (eC (.int 1000000007))) aNil))) (sRet (eBin gMod (eCall bInt (aCons (eVar 2) aNil)) (eVar 1)))))
def F__law_next : List U → Gp → R U := defF 2 3 g__law_next
theorem ar__law_next : Ar 2 F__law_next := ar_defF
theorem run__law_next (x0 x1 : U) (G : Gp) : F__law_next [x0, x1] G = fin (g__law_next [some x0, some x1, none] G) := defF_eq rfl G rfl
def g__law_prices_1 : Ev → Gp → SR := (sSeq (sAsg (eBin gAdd (eC (.int 1)) (eCall F__law_next (aCons (eVar 0) (aCons (eC (.int 1000)) aNil)))) (gNm 3)) (sRet (eComp [6] (iOfs (aCons (eVar 1) aNil) kRng1) (gNm 6) tYesB (eVar 3))))
def g__law_prices_2 : Ev → Gp → SR := (sSeq (sAsg (eComp [6] (iOfs (aCons (eVar 1) aNil) kRng1) (gNm 6) tYesB (eC (.int 1))) (gNm 4)) (sSeq (sAsg (eBin gAdd (eC (.int 1)) (eCall F__law_next (aCons (eVar 0) (aCons (eC (.int 1000)) aNil)))) (gSubE (eVar 4) (eCall F__law_next (aCons (eVar 0) (aCons (eVar 1) aNil))))) (sRet (eVar 4))))
def g__law_prices : Ev → Gp → SR := (sSeq (sAsg (eBin gAdd (eC (.int 1)) (eCall F__law_next (aCons (eVar 0) (aCons (eC (.int 14)) aNil)))) (gNm 1)) (sSeq (sAsg (eCall F__law_next (aCons (eVar 0) (aCons (eC (.int 6)) aNil))) (gNm 2)) (sSeq (sIf (bVal (eBin gEq (eVar 2) (eC (.int 0)))) g__law_prices_1 sNil) (sSeq (sIf (bVal (eBin gEq (eVar 2) (eC (.int 1)))) g__law_prices_2 sNil) (sSeq (sAsg (eBin gIdx (eTup (aCons (eC (.int 3)) (aCons (eC (.int 3)) (aCons (eC (.int 30)) (aCons (eC (.int 1000)) aNil))))) (eBin gSub (eVar 2) (eC (.int 2)))) (gNm 5)) (sRet (eComp [6] (iOfs (aCons (eVar 1) aNil) kRng1) (gNm 6) tYesB (eBin gAdd (eC (.int 1)) (eCall F__law_next (aCons (eVar 0) (aCons (eVar 5) aNil)))))))))))
def F__law_prices : List U → Gp → R U := defF 1 7 g__law_prices
theorem ar__law_prices : Ar 1 F__law_prices := ar_defF
theorem run__law_prices (x0 : U) (G : Gp) : F__law_prices [x0] G = fin (g__law_prices [some x0, none, none, none, none, none, none] G) := defF_eq rfl G rfl
def g__law_least_1 : Ev → Gp → SR := (sExpr (eMeth mAppend (eVar 2) (aCons (eBin gAdd (eBin gIdx (eVar 2) (eUn gNeg (eC (.int 1)))) (eVar 3)) aNil)))
def g__law_least_2 : Ev → Gp → SR := (sExpr (eMeth mAppend (eVar 6) (aCons (eCall bMin (aCons (eComp [8] (iOfs (aCons (eBin gSub (eVar 5) (eC (.int 1))) (aCons (eVar 7) aNil)) kRng2) (gNm 8) tYesB (eCall bMax2 (aCons (eBin gIdx (eVar 4) (eVar 8)) (aCons (eBin gSub (eBin gIdx (eVar 2) (eVar 7)) (eBin gIdx (eVar 2) (eVar 8))) aNil)))) aNil)) aNil)))
def g__law_least_3 : Ev → Gp → SR := (sSeq (sAsg (eComp [7] (iOfs (aCons (eVar 5) aNil) kRng1) (gNm 7) tYesB (eBin gIdx (eVar 2) (eUn gNeg (eC (.int 1))))) (gNm 6)) (sSeq (sFor (iOfs (aCons (eVar 5) (aCons (eCall bLen (aCons (eVar 2) aNil)) aNil)) kRng2) (gNm 7) g__law_least_2) (sAsg (eVar 6) (gNm 4))))
def g__law_least : Ev → Gp → SR := (sSeq (sAsg (eLst (aCons (eC (.int 0)) aNil)) (gNm 2)) (sSeq (sFor (iOf (eVar 0) kSeq) (gNm 3) g__law_least_1) (sSeq (sAsg (eVar 2) (gNm 4)) (sSeq (sFor (iOfs (aCons (eC (.int 2)) (aCons (eBin gAdd (eVar 1) (eC (.int 1))) aNil)) kRng2) (gNm 5) g__law_least_3) (sRet (eBin gIdx (eVar 4) (eUn gNeg (eC (.int 1)))))))))
def F__law_least : List U → Gp → R U := defF 2 9 g__law_least
theorem ar__law_least : Ar 2 F__law_least := ar_defF
theorem run__law_least (x0 x1 : U) (G : Gp) : F__law_least [x0, x1] G = fin (g__law_least [some x0, some x1, none, none, none, none, none, none, none] G) := defF_eq rfl G rfl
def g__law_paper_1 : Ev → Gp → SR := (sIf (tAndB (bVal (eBin gLt (eVar 6) (eCall bLen (aCons (eVar 0) aNil)))) (bVal (eBin gLt (eCall bSum (aCons (eSl (eVar 0) (pInt (eVar 4)) (pInt (eVar 6))) aNil)) (eVar 2)))) (sAsg (eBin gAdd (eVar 6) (eC (.int 1))) (gNm 6)) sNil)
def g__law_paper_2 : Ev → Gp → SR := (sSeq (sAsg (eBin gAdd (eVar 4) (eC (.int 1))) (gNm 6)) (sSeq (sFor (iOfs (aCons (eCall bLen (aCons (eVar 0) aNil)) aNil) kRng1) (gNm 7) g__law_paper_1) (sSeq (sExpr (eMeth mAppend (eVar 3) (aCons (eTup (aCons (eVar 4) (aCons (eVar 6) aNil))) aNil))) (sAsg (eBin gSub (eVar 6) (eC (.int 1))) (gNm 4)))))
def g__law_paper : Ev → Gp → SR := (sSeq (sAsg (eLst aNil) (gNm 3)) (sSeq (sAsg (eC (.int 0)) (gNm 4)) (sSeq (sFor (iOfs (aCons (eVar 1) aNil) kRng1) (gNm 5) g__law_paper_2) (sRet (eCall bTuple (aCons (eVar 3) aNil))))))
def F__law_paper : List U → Gp → R U := defF 3 8 g__law_paper
theorem ar__law_paper : Ar 3 F__law_paper := ar_defF
theorem run__law_paper (x0 x1 x2 : U) (G : Gp) : F__law_paper [x0, x1, x2] G = fin (g__law_paper [some x0, some x1, some x2, none, none, none, none, none] G) := defF_eq rfl G rfl
def g__law_is_integer : Ev → Gp → SR := (sRet (eAnd (eIs tbInt (eVar 0)) (eNot (eIs tbBool (eVar 0)))))
def F__law_is_integer : List U → Gp → R U := defF 1 1 g__law_is_integer
theorem ar__law_is_integer : Ar 1 F__law_is_integer := ar_defF
theorem run__law_is_integer (x0 : U) (G : Gp) : F__law_is_integer [x0] G = fin (g__law_is_integer [some x0] G) := defF_eq rfl G rfl
def g__law_holds_1 : Ev → Gp → SR := (sSeq (sIf (tOrB (tNotB (bVal (eIs tbTup (eVar 5)))) (bVal (eBin gNe (eCall bLen (aCons (eVar 5) aNil)) (eC (.int 2))))) (sRet (eC (.bl false))) sNil) (sSeq (sIf (tOrB (tNotB (bVal (eCall F__law_is_integer (aCons (eBin gIdx (eVar 5) (eC (.int 0))) aNil)))) (tNotB (bVal (eCall F__law_is_integer (aCons (eBin gIdx (eVar 5) (eC (.int 1))) aNil))))) (sRet (eC (.bl false))) sNil) (sSeq (sIf (tOrB (bVal (eBin gLt (eBin gIdx (eVar 5) (eC (.int 0))) (eC (.int 0)))) (tOrB (bVal (eBin gLe (eBin gIdx (eVar 5) (eC (.int 1))) (eBin gIdx (eVar 5) (eC (.int 0))))) (bVal (eBin gGt (eBin gIdx (eVar 5) (eC (.int 1))) (eCall bLen (aCons (eVar 0) aNil)))))) (sRet (eC (.bl false))) sNil) (sSeq (sIf (tOrB (bVal (eBin gLt (eBin gIdx (eVar 5) (eC (.int 0))) (eBin gSub (eVar 4) (eC (.int 1))))) (bVal (eBin gLt (eCall bSum (aCons (eSl (eVar 0) (pInt (eBin gIdx (eVar 5) (eC (.int 0)))) (pInt (eBin gIdx (eVar 5) (eC (.int 1))))) aNil)) (eVar 2)))) (sRet (eC (.bl false))) sNil) (sAsg (eBin gIdx (eVar 5) (eC (.int 1))) (gNm 4))))))
def g__law_holds : Ev → Gp → SR := (sSeq (sIf (tOrB (tNotB (bVal (eIs tbTup (eVar 3)))) (bVal (eBin gNe (eCall bLen (aCons (eVar 3) aNil)) (eVar 1)))) (sRet (eC (.bl false))) sNil) (sSeq (sAsg (eC (.int 1)) (gNm 4)) (sSeq (sFor (iOf (eVar 3) kSeq) (gNm 5) g__law_holds_1) (sRet (eC (.bl true))))))
def F__law_holds : List U → Gp → R U := defF 4 6 g__law_holds
theorem ar__law_holds : Ar 4 F__law_holds := ar_defF
theorem run__law_holds (x0 x1 x2 x3 : U) (G : Gp) : F__law_holds [x0, x1, x2, x3] G = fin (g__law_holds [some x0, some x1, some x2, some x3, none, none] G) := defF_eq rfl G rfl
def g__law_same_1 (rec : List U → Gp → R U) : Ev → Gp → SR := (sIf (tNotB (bVal (eCall rec (aCons (eBin gIdx (eVar 0) (eVar 2)) (aCons (eBin gIdx (eVar 1) (eVar 2)) aNil))))) (sRet (eC (.bl false))) sNil)
def g__law_same_2 (rec : List U → Gp → R U) : Ev → Gp → SR := (sSeq (sIf (tOrB (tNotB (bVal (eIs tbTup (eVar 0)))) (bVal (eBin gNe (eCall bLen (aCons (eVar 0) aNil)) (eCall bLen (aCons (eVar 1) aNil))))) (sRet (eC (.bl false))) sNil) (sSeq (sFor (iOfs (aCons (eCall bLen (aCons (eVar 1) aNil)) aNil) kRng1) (gNm 2) (g__law_same_1 rec)) (sRet (eC (.bl true)))))
def g__law_same_3 (rec : List U → Gp → R U) : Ev → Gp → SR := (sRet (eAnd (eIs tbBool (eVar 0)) (eBin gEq (eVar 0) (eVar 1))))
def g__law_same_4 (rec : List U → Gp → R U) : Ev → Gp → SR := (sRet (eAnd (eIs tbInt (eVar 0)) (eAnd (eNot (eIs tbBool (eVar 0))) (eBin gEq (eVar 0) (eVar 1)))))
def g__law_same (rec : List U → Gp → R U) : Ev → Gp → SR := (sSeq (sIf (bVal (eIs tbTup (eVar 1))) (g__law_same_2 rec) sNil) (sSeq (sIf (bVal (eBin gIsN (eVar 1) (eC .non))) (sRet (eBin gIsN (eVar 0) (eC .non))) sNil) (sSeq (sIf (bVal (eIs tbBool (eVar 1))) (g__law_same_3 rec) sNil) (sSeq (sIf (bVal (eIs tbInt (eVar 1))) (g__law_same_4 rec) sNil) (sRet (eAnd (eIs tbStr (eVar 0)) (eBin gEq (eVar 0) (eVar 1))))))))
def F__law_same : Nat → List U → Gp → R U
  | 0 => badF
  | d + 1 => defF 2 3 (g__law_same (F__law_same d))
theorem ar__law_same : ∀ d, Ar 2 (F__law_same d)
  | 0 => ar_bad
  | d + 1 => ar_defF
theorem run__law_same (d : Nat) (x0 x1 : U) (G : Gp) : F__law_same (d + 1) [x0, x1] G = fin (g__law_same (F__law_same d) [some x0, some x1, none] G) := defF_eq rfl G rfl
def g_is_integer : Ev → Gp → SR := (sRet (eAnd (eIs tbInt (eVar 0)) (eNot (eIs tbBool (eVar 0)))))
def F_is_integer : List U → Gp → R U := defF 1 1 g_is_integer
theorem ar_is_integer : Ar 1 F_is_integer := ar_defF
theorem run_is_integer (x0 : U) (G : Gp) : F_is_integer [x0] G = fin (g_is_integer [some x0] G) := defF_eq rfl G rfl
def g_is_from_to : Ev → Gp → SR := (sRet (eAnd (eCall F_is_integer (aCons (eVar 0) aNil)) (eChain gLe gLe (eVar 1) (eVar 0) (eVar 2))))
def F_is_from_to : List U → Gp → R U := defF 3 3 g_is_from_to
theorem ar_is_from_to : Ar 3 F_is_from_to := ar_defF
theorem run_is_from_to (x0 x1 x2 : U) (G : Gp) : F_is_from_to [x0, x1, x2] G = fin (g_is_from_to [some x0, some x1, some x2] G) := defF_eq rfl G rfl
def g_checked_row_1 : Ev → Gp → SR := (sIf (tNotB (bVal (eCall F_is_from_to (aCons (eVar 5) (aCons (eVar 2) (aCons (eVar 3) aNil)))))) (sRaise "InvalidRow" ["place"] (aCons (eVar 4) aNil)) sNil)
def g_checked_row : Ev → Gp → SR := (sSeq (sIf (tOrB (tNotB (bVal (eIs tbSeq (eVar 0)))) (tNotB (bVal (eChain gLe gLe (eC (.int 1)) (eCall bLen (aCons (eVar 0) aNil)) (eVar 1))))) (sRaise "InvalidRow" ["place"] (aCons (eC (.int 0)) aNil)) sNil) (sSeq (sFor (iOfs (aCons (eVar 0) aNil) kEnum) (gTup (gCons (gNm 4) (gCons (gNm 5) gNil)) 2) g_checked_row_1) (sRet (eCall bTuple (aCons (eVar 0) aNil)))))
def F_checked_row : List U → Gp → R U := defF 4 6 g_checked_row
theorem ar_checked_row : Ar 4 F_checked_row := ar_defF
theorem run_checked_row (x0 x1 x2 x3 : U) (G : Gp) : F_checked_row [x0, x1, x2, x3] G = fin (g_checked_row [some x0, some x1, some x2, some x3, none, none] G) := defF_eq rfl G rfl
def g_checked_costs : Ev → Gp → SR := (sRet (eCall F_checked_row (aCons (eVar 0) (aCons (eC (.int 14)) (aCons (eC (.int 1)) (aCons (eC (.int 1000)) aNil))))))
def F_checked_costs : List U → Gp → R U := defF 1 1 g_checked_costs
theorem ar_checked_costs : Ar 1 F_checked_costs := ar_defF
theorem run_checked_costs (x0 : U) (G : Gp) : F_checked_costs [x0] G = fin (g_checked_costs [some x0] G) := defF_eq rfl G rfl
def g_check_number : Ev → Gp → SR := (sIf (tNotB (bVal (eCall F_is_from_to (aCons (eVar 0) (aCons (eVar 1) (aCons (eVar 2) aNil)))))) (sRaise "InvalidNumber" ["number"] (aCons (eVar 0) aNil)) sNil)
def F_check_number : List U → Gp → R U := defF 3 3 g_check_number
theorem ar_check_number : Ar 3 F_check_number := ar_defF
theorem run_check_number (x0 x1 x2 : U) (G : Gp) : F_check_number [x0, x1, x2] G = fin (g_check_number [some x0, some x1, some x2] G) := defF_eq rfl G rfl
def g_checked_cut : Ev → Gp → SR := (sSeq (sAsg (eCall F_checked_costs (aCons (eVar 0) aNil)) (gNm 2)) (sSeq (sExpr (eCall F_check_number (aCons (eVar 1) (aCons (eC (.int 1)) (aCons (eCall bLen (aCons (eVar 2) aNil)) aNil))))) (sRet (eVar 2))))
def F_checked_cut : List U → Gp → R U := defF 2 3 g_checked_cut
theorem ar_checked_cut : Ar 2 F_checked_cut := ar_defF
theorem run_checked_cut (x0 x1 : U) (G : Gp) : F_checked_cut [x0, x1] G = fin (g_checked_cut [some x0, some x1, none] G) := defF_eq rfl G rfl
def g_is_pair_of : Ev → Gp → SR := (sSeq (sIf (tOrB (tNotB (bVal (eIs tbTup (eVar 1)))) (bVal (eBin gNe (eCall bLen (aCons (eVar 1) aNil)) (eC (.int 2))))) (sRet (eC (.bl false))) sNil) (sSeq (sAsg (eVar 1) (gTup (gCons (gNm 3) (gCons (gNm 4) gNil)) 2)) (sSeq (sIf (tOrB (tNotB (bVal (eCall F_is_from_to (aCons (eVar 3) (aCons (eC (.int 0)) (aCons (eBin gSub (eCall bLen (aCons (eVar 0) aNil)) (eC (.int 1))) aNil)))))) (tNotB (bVal (eCall F_is_integer (aCons (eVar 4) aNil))))) (sRet (eC (.bl false))) sNil) (sSeq (sIf (tNotB (bVal (eChain gLt gLe (eVar 3) (eVar 4) (eCall bLen (aCons (eVar 0) aNil))))) (sRet (eC (.bl false))) sNil) (sRet (eBin gGe (eCall bSum (aCons (eSl (eVar 0) (pInt (eVar 3)) (pInt (eVar 4))) aNil)) (eVar 2)))))))
def F_is_pair_of : List U → Gp → R U := defF 3 5 g_is_pair_of
theorem ar_is_pair_of : Ar 3 F_is_pair_of := ar_defF
theorem run_is_pair_of (x0 x1 x2 : U) (G : Gp) : F_is_pair_of [x0, x1, x2] G = fin (g_is_pair_of [some x0, some x1, some x2, none, none] G) := defF_eq rfl G rfl
def g_top_paper_holds_1 : Ev → Gp → SR := (sSeq (sIf (tNotB (bVal (eCall F_is_pair_of (aCons (eVar 4) (aCons (eVar 6) (aCons (eVar 2) aNil)))))) (sRet (eC (.bl false))) sNil) (sSeq (sIf (bVal (eBin gLt (eBin gIdx (eVar 6) (eC (.int 0))) (eBin gSub (eVar 5) (eC (.int 1))))) (sRet (eC (.bl false))) sNil) (sAsg (eBin gIdx (eVar 6) (eC (.int 1))) (gNm 5))))
def g_top_paper_holds : Ev → Gp → SR := (sSeq (sAsg (eCall F_checked_cut (aCons (eVar 0) (aCons (eVar 1) aNil))) (gNm 4)) (sSeq (sIf (tOrB (tNotB (bVal (eIs tbTup (eVar 3)))) (bVal (eBin gNe (eCall bLen (aCons (eVar 3) aNil)) (eVar 1)))) (sRet (eC (.bl false))) sNil) (sSeq (sAsg (eC (.int 1)) (gNm 5)) (sSeq (sFor (iOf (eVar 3) kSeq) (gNm 6) g_top_paper_holds_1) (sRet (eC (.bl true)))))))
def F_top_paper_holds : List U → Gp → R U := defF 4 7 g_top_paper_holds
theorem ar_top_paper_holds : Ar 4 F_top_paper_holds := ar_defF
theorem run_top_paper_holds (x0 x1 x2 x3 : U) (G : Gp) : F_top_paper_holds [x0, x1, x2, x3] G = fin (g_top_paper_holds [some x0, some x1, some x2, some x3, none, none, none] G) := defF_eq rfl G rfl
def g_stages_needed_1 : Ev → Gp → SR := (sSeq (sAug 2 gAugAdd (eC (.int 1))) (sAsg (eVar 1) (gNm 3)))
def g_stages_needed_2 : Ev → Gp → SR := (sSeq (sIf (tOrB (bVal (eBin gEq (eVar 2) (eC (.int 0)))) (bVal (eBin gGt (eVar 4) (eVar 3)))) g_stages_needed_1 sNil) (sAug 3 gSub (eVar 4)))
def g_stages_needed : Ev → Gp → SR := (sSeq (sAsg (eC (.int 0)) (gNm 2)) (sSeq (sAsg (eC (.int 0)) (gNm 3)) (sSeq (sFor (iOf (eVar 0) kSeq) (gNm 4) g_stages_needed_2) (sRet (eVar 2)))))
def F_stages_needed : List U → Gp → R U := defF 2 5 g_stages_needed
theorem ar_stages_needed : Ar 2 F_stages_needed := ar_defF
theorem run_stages_needed (x0 x1 : U) (G : Gp) : F_stages_needed [x0, x1] G = fin (g_stages_needed [some x0, some x1, none, none, none] G) := defF_eq rfl G rfl
def g_top_needed_1 : Ev → Gp → SR := (sSeq (sAsg (eBin gFdiv (eBin gAdd (eVar 2) (eVar 3)) (eC (.int 2))) (gNm 4)) (sIf (bVal (eBin gLe (eCall F_stages_needed (aCons (eVar 0) (aCons (eVar 4) aNil))) (eVar 1))) (sAsg (eVar 4) (gNm 3)) (sAsg (eBin gAdd (eVar 4) (eC (.int 1))) (gNm 2))))
def g_top_needed : Ev → Gp → SR := (sSeq (sAsg (eCall bMax (aCons (eVar 0) aNil)) (gNm 2)) (sSeq (sAsg (eCall bSum (aCons (eVar 0) aNil)) (gNm 3)) (sSeq (whileN (bVal (eBin gLt (eVar 2) (eVar 3))) g_top_needed_1 bigN) (sRet (eVar 2)))))
def F_top_needed : List U → Gp → R U := defF 2 5 g_top_needed
theorem ar_top_needed : Ar 2 F_top_needed := ar_defF
theorem run_top_needed (x0 x1 : U) (G : Gp) : F_top_needed [x0, x1] G = fin (g_top_needed [some x0, some x1, none, none, none] G) := defF_eq rfl G rfl
def g_least_top : Ev → Gp → SR := (sSeq (sAsg (eCall F_checked_cut (aCons (eVar 0) (aCons (eVar 1) aNil))) (gNm 2)) (sRet (eCall F_top_needed (aCons (eVar 2) (aCons (eVar 1) aNil)))))
def F_least_top : List U → Gp → R U := defF 2 3 g_least_top
theorem ar_least_top : Ar 2 F_least_top := ar_defF
theorem run_least_top (x0 x1 : U) (G : Gp) : F_least_top [x0, x1] G = fin (g_least_top [some x0, some x1, none] G) := defF_eq rfl G rfl
def g_shortest_from_1 : Ev → Gp → SR := (sSeq (sAug 4 gAugAdd (eBin gIdx (eVar 0) (eVar 3))) (sAug 3 gAugAdd (eC (.int 1))))
def g_shortest_from : Ev → Gp → SR := (sSeq (sAsg (eVar 1) (gNm 3)) (sSeq (sAsg (eC (.int 0)) (gNm 4)) (sSeq (whileN (bVal (eBin gLt (eVar 4) (eVar 2))) g_shortest_from_1 bigN) (sRet (eVar 3)))))
def F_shortest_from : List U → Gp → R U := defF 3 5 g_shortest_from
theorem ar_shortest_from : Ar 3 F_shortest_from := ar_defF
theorem run_shortest_from (x0 x1 x2 : U) (G : Gp) : F_shortest_from [x0, x1, x2] G = fin (g_shortest_from [some x0, some x1, some x2, none, none] G) := defF_eq rfl G rfl
def g_top_paper_1 : Ev → Gp → SR := (sSeq (sAsg (eCall F_shortest_from (aCons (eVar 2) (aCons (eVar 5) (aCons (eVar 3) aNil)))) (gNm 7)) (sSeq (sExpr (eMeth mAppend (eVar 4) (aCons (eTup (aCons (eVar 5) (aCons (eVar 7) aNil))) aNil))) (sAsg (eBin gSub (eVar 7) (eC (.int 1))) (gNm 5))))
def g_top_paper : Ev → Gp → SR := (sSeq (sAsg (eCall F_checked_cut (aCons (eVar 0) (aCons (eVar 1) aNil))) (gNm 2)) (sSeq (sAsg (eCall F_top_needed (aCons (eVar 2) (aCons (eVar 1) aNil))) (gNm 3)) (sSeq (sAsg (eLst aNil) (gNm 4)) (sSeq (sAsg (eC (.int 0)) (gNm 5)) (sSeq (sFor (iOfs (aCons (eVar 1) aNil) kRng1) (gNm 6) g_top_paper_1) (sRet (eCall bTuple (aCons (eVar 4) aNil))))))))
def F_top_paper : List U → Gp → R U := defF 2 8 g_top_paper
theorem ar_top_paper : Ar 2 F_top_paper := ar_defF
theorem run_top_paper (x0 x1 : U) (G : Gp) : F_top_paper [x0, x1] G = fin (g_top_paper [some x0, some x1, none, none, none, none, none, none] G) := defF_eq rfl G rfl
def g__law_called_1 : Ev → Gp → SR := (sRet (eCall F_least_top (aCons (eVar 1) (aCons (eVar 2) aNil))))
def g__law_called_2 : Ev → Gp → SR := (sRet (eCall F_top_paper (aCons (eVar 1) (aCons (eVar 2) aNil))))
def g__law_called : Ev → Gp → SR := (sSeq (sIf (bVal (eBin gEq (eVar 0) (eC (.int 0)))) g__law_called_1 sNil) (sSeq (sIf (bVal (eBin gEq (eVar 0) (eC (.int 1)))) g__law_called_2 sNil) (sRet (eCall F_top_paper_holds (aCons (eVar 1) (aCons (eVar 2) (aCons (eVar 3) (aCons (eVar 4) aNil))))))))
def F__law_called : List U → Gp → R U := defF 5 5 g__law_called
theorem ar__law_called : Ar 5 F__law_called := ar_defF
theorem run__law_called (x0 x1 x2 x3 x4 : U) (G : Gp) : F__law_called [x0, x1, x2, x3, x4] G = fin (g__law_called [some x0, some x1, some x2, some x3, some x4] G) := defF_eq rfl G rfl
def g__law_told_1 : Ev → Gp → SR := (sRet (eTup (aCons (eC (.str ("told" : Str))) (aCons (eCall F__law_called (aCons (eVar 0) (aCons (eVar 1) (aCons (eVar 2) (aCons (eVar 3) (aCons (eVar 4) aNil)))))) aNil))))
def g__law_told : Ev → Gp → SR := (sTry exT g__law_told_1 (("InvalidRow", (some 5), (fun c fs => (sSeq (sIf (bVal (eXis 5 (kitT exT c ["InvalidNumber", "InvalidLot", "InvalidLoad"]))) (sRet (eC .non)) sNil) (sRet (eTup (aCons (eC (.str ("row" : Str))) (aCons (eXf 5 fs "place") aNil))))))) :: (("InvalidNumber", (some 5), (fun c fs => (sSeq (sIf (bVal (eXis 5 (kitT exT c ["InvalidLot", "InvalidLoad"]))) (sRet (eC .non)) sNil) (sRet (eTup (aCons (eC (.str ("number" : Str))) (aCons (eXf 5 fs "number") aNil))))))) :: (("DealError", none, (fun c fs => (sRet (eC .non)))) :: []))))
def F__law_told : List U → Gp → R U := defF 5 6 g__law_told
theorem ar__law_told : Ar 5 F__law_told := ar_defF
theorem run__law_told (x0 x1 x2 x3 x4 : U) (G : Gp) : F__law_told [x0, x1, x2, x3, x4] G = fin (g__law_told [some x0, some x1, some x2, some x3, some x4, none] G) := defF_eq rfl G rfl
def g__law_judged : Ev → Gp → SR := (sSeq (sAsg (eCall F__law_holds (aCons (eVar 0) (aCons (eVar 1) (aCons (eVar 2) (aCons (eVar 3) aNil))))) (gNm 4)) (sSeq (sAsg (eCall bList (aCons (eVar 0) aNil)) (gNm 5)) (sRet (eAnd (eCall (F__law_same 40) (aCons (eCall F__law_told (aCons (eC (.int 2)) (aCons (eVar 5) (aCons (eVar 1) (aCons (eVar 2) (aCons (eVar 3) aNil)))))) (aCons (eTup (aCons (eC (.str ("told" : Str))) (aCons (eVar 4) aNil))) aNil))) (eBin gEq (eVar 5) (eVar 0))))))
def F__law_judged : List U → Gp → R U := defF 4 6 g__law_judged
theorem ar__law_judged : Ar 4 F__law_judged := ar_defF
theorem run__law_judged (x0 x1 x2 x3 : U) (G : Gp) : F__law_judged [x0, x1, x2, x3] G = fin (g__law_judged [some x0, some x1, some x2, some x3, none, none] G) := defF_eq rfl G rfl
def g__law_small_right_1 : Ev → Gp → SR := (sIf (tNotB (bVal (eCall F__law_judged (aCons (eVar 0) (aCons (eC (.int 1)) (aCons (eVar 4) (aCons (eTup (aCons (eTup (aCons (eVar 2) (aCons (eVar 3) aNil))) aNil)) aNil))))))) (sRet (eC (.bl false))) sNil)
def g__law_small_right_2 : Ev → Gp → SR := (sFor (iOf (eTup (aCons (eUn gNeg (eC (.int 1))) (aCons (eVar 1) aNil))) kSeq) (gNm 4) g__law_small_right_1)
def g__law_small_right_3 : Ev → Gp → SR := (sFor (iOfs (aCons (eUn gNeg (eC (.int 1))) (aCons (eBin gAdd (eCall bLen (aCons (eVar 0) aNil)) (eC (.int 2))) aNil)) kRng2) (gNm 3) g__law_small_right_2)
def g__law_small_right : Ev → Gp → SR := (sSeq (sFor (iOfs (aCons (eUn gNeg (eC (.int 1))) (aCons (eBin gAdd (eCall bLen (aCons (eVar 0) aNil)) (eC (.int 2))) aNil)) kRng2) (gNm 2) g__law_small_right_3) (sRet (eC (.bl true))))
def F__law_small_right : List U → Gp → R U := defF 2 5 g__law_small_right
theorem ar__law_small_right : Ar 2 F__law_small_right := ar_defF
theorem run__law_small_right (x0 x1 : U) (G : Gp) : F__law_small_right [x0, x1] G = fin (g__law_small_right [some x0, some x1, none, none, none] G) := defF_eq rfl G rfl
def g__law_free_paper_1 : Ev → Gp → SR := (sIf (tAndB (bVal (eBin gLt (eVar 7) (eCall bLen (aCons (eVar 1) aNil)))) (bVal (eBin gLt (eCall bSum (aCons (eSl (eVar 1) (pInt (eVar 5)) (pInt (eVar 7))) aNil)) (eVar 3)))) (sAsg (eBin gAdd (eVar 7) (eC (.int 1))) (gNm 7)) sNil)
def g__law_free_paper_2 : Ev → Gp → SR := (sSeq (sAsg (eCall bMin2 (aCons (eVar 5) (aCons (eBin gSub (eCall bLen (aCons (eVar 1) aNil)) (eC (.int 1))) aNil))) (gNm 5)) (sSeq (sAsg (eBin gAdd (eVar 5) (eC (.int 1))) (gNm 7)) (sSeq (sFor (iOfs (aCons (eCall bLen (aCons (eVar 1) aNil)) aNil) kRng1) (gNm 8) g__law_free_paper_1) (sSeq (sIf (tAndB (bVal (eBin gLt (eVar 7) (eCall bLen (aCons (eVar 1) aNil)))) (bVal (eBin gEq (eCall F__law_next (aCons (eVar 0) (aCons (eC (.int 4)) aNil))) (eC (.int 0))))) (sAsg (eBin gAdd (eVar 7) (eC (.int 1))) (gNm 7)) sNil) (sSeq (sExpr (eMeth mAppend (eVar 4) (aCons (eTup (aCons (eVar 5) (aCons (eVar 7) aNil))) aNil))) (sAsg (eBin gAdd (eBin gSub (eVar 7) (eC (.int 1))) (eCall bInt (aCons (eBin gEq (eCall F__law_next (aCons (eVar 0) (aCons (eC (.int 4)) aNil))) (eC (.int 0))) aNil))) (gNm 5)))))))
def g__law_free_paper : Ev → Gp → SR := (sSeq (sAsg (eLst aNil) (gNm 4)) (sSeq (sAsg (eCall bInt (aCons (eBin gEq (eCall F__law_next (aCons (eVar 0) (aCons (eC (.int 4)) aNil))) (eC (.int 0))) aNil)) (gNm 5)) (sSeq (sFor (iOfs (aCons (eVar 2) aNil) kRng1) (gNm 6) g__law_free_paper_2) (sRet (eCall bTuple (aCons (eVar 4) aNil))))))
def F__law_free_paper : List U → Gp → R U := defF 4 9 g__law_free_paper
theorem ar__law_free_paper : Ar 4 F__law_free_paper := ar_defF
theorem run__law_free_paper (x0 x1 x2 x3 : U) (G : Gp) : F__law_free_paper [x0, x1, x2, x3] G = fin (g__law_free_paper [some x0, some x1, some x2, some x3, none, none, none, none, none] G) := defF_eq rfl G rfl
def g__law_odd : Ev → Gp → SR := (sSeq (sAsg (eLst (aCons (eC .non) (aCons (eC (.bl true)) (aCons (eC (.bl false)) (aCons (eC (.int 0)) (aCons (eUn gNeg (eC (.int 1))) (aCons (eUn gNeg (eC (.int 7))) (aCons (eC (.str ("" : Str))) (aCons (eC (.str ("1" : Str))) (aCons (eC (.str ("ab" : Str))) (aCons (eTup aNil) (aCons (eTup (aCons (eC .non) aNil)) (aCons (eBin gPow (eC (.int 10)) (eC (.int 40))) (aCons (eUn gNeg (eBin gPow (eC (.int 10)) (eC (.int 40)))) (aCons (eTup (aCons (eC (.int 0)) (aCons (eC (.int 1)) aNil))) aNil))))))))))))))) (gNm 1)) (sRet (eBin gIdx (eVar 1) (eCall F__law_next (aCons (eVar 0) (aCons (eC (.int 14)) aNil))))))
def F__law_odd : List U → Gp → R U := defF 1 2 g__law_odd
theorem ar__law_odd : Ar 1 F__law_odd := ar_defF
theorem run__law_odd (x0 : U) (G : Gp) : F__law_odd [x0] G = fin (g__law_odd [some x0, none] G) := defF_eq rfl G rfl
def g__law_changed_1 : Ev → Gp → SR := (sAsg (eBin gSub (eBin gIdx (eVar 6) (eC (.int 0))) (eC (.int 1))) (gSubE (eVar 6) (eC (.int 0))))
def g__law_changed_2 : Ev → Gp → SR := (sAsg (eBin gAdd (eBin gIdx (eVar 6) (eC (.int 0))) (eC (.int 1))) (gSubE (eVar 6) (eC (.int 0))))
def g__law_changed_3 : Ev → Gp → SR := (sAsg (eBin gSub (eBin gIdx (eVar 6) (eC (.int 1))) (eC (.int 1))) (gSubE (eVar 6) (eC (.int 1))))
def g__law_changed_4 : Ev → Gp → SR := (sAsg (eBin gAdd (eBin gIdx (eVar 6) (eC (.int 1))) (eC (.int 1))) (gSubE (eVar 6) (eC (.int 1))))
def g__law_changed_5 : Ev → Gp → SR := (sAsg (eBin gAdd (eVar 2) (eC (.int 1))) (gSubE (eVar 6) (eC (.int 1))))
def g__law_changed_6 : Ev → Gp → SR := (sAsg (eUn gNeg (eC (.int 1))) (gSubE (eVar 6) (eC (.int 0))))
def g__law_changed_7 : Ev → Gp → SR := (sAsg (eBin gIdx (eVar 6) (eC (.int 1))) (gSubE (eVar 6) (eC (.int 0))))
def g__law_changed_8 : Ev → Gp → SR := (sAsg (eCall F__law_odd (aCons (eVar 0) aNil)) (gSubE (eVar 6) (eCall F__law_next (aCons (eVar 0) (aCons (eC (.int 2)) aNil)))))
def g__law_changed_9 : Ev → Gp → SR := (sExpr (eMeth mAppend (eVar 4) (aCons (eCall bList (aCons (eVar 6) aNil)) aNil)))
def g__law_changed_10 : Ev → Gp → SR := (sAsg (eBin gSub (eBin gIdx (eBin gIdx (eVar 1) (eBin gSub (eVar 5) (eC (.int 1)))) (eC (.int 1))) (eC (.int 2))) (gSubE (eVar 6) (eC (.int 0))))
def g__law_changed_11 : Ev → Gp → SR := (sExpr (eMeth mInsert (eVar 4) (aCons (eC (.int 0)) (aCons (eMeth mPopAt (eVar 4) (aCons (eVar 5) aNil)) aNil))))
def g__law_changed_12 : Ev → Gp → SR := (sRet (eComp [8] (iOf (eVar 4) kSeq) (gNm 8) tYesB (eCall bTuple (aCons (eVar 8) aNil))))
def g__law_changed_13 : Ev → Gp → SR := (sAsg (eCall bList (aCons (eVar 6) aNil)) (gSubE (eVar 7) (eVar 5)))
def g__law_changed : Ev → Gp → SR := (sSeq (sAsg (eCall F__law_next (aCons (eVar 0) (aCons (eC (.int 16)) aNil))) (gNm 3)) (sSeq (sAsg (eComp [6] (iOf (eVar 1) kSeq) (gNm 6) tYesB (eCall bList (aCons (eVar 6) aNil))) (gNm 4)) (sSeq (sAsg (eCall F__law_next (aCons (eVar 0) (aCons (eCall bLen (aCons (eVar 4) aNil)) aNil))) (gNm 5)) (sSeq (sAsg (eBin gIdx (eVar 4) (eVar 5)) (gNm 6)) (sSeq (sIf (bVal (eBin gEq (eVar 3) (eC (.int 0)))) g__law_changed_1 sNil) (sSeq (sIf (bVal (eBin gEq (eVar 3) (eC (.int 1)))) g__law_changed_2 sNil) (sSeq (sIf (bVal (eBin gEq (eVar 3) (eC (.int 2)))) g__law_changed_3 sNil) (sSeq (sIf (bVal (eBin gEq (eVar 3) (eC (.int 3)))) g__law_changed_4 sNil) (sSeq (sIf (bVal (eBin gEq (eVar 3) (eC (.int 4)))) g__law_changed_5 sNil) (sSeq (sIf (bVal (eBin gEq (eVar 3) (eC (.int 5)))) g__law_changed_6 sNil) (sSeq (sIf (bVal (eBin gEq (eVar 3) (eC (.int 6)))) g__law_changed_7 sNil) (sSeq (sIf (bVal (eBin gEq (eVar 3) (eC (.int 7)))) g__law_changed_8 sNil) (sSeq (sIf (bVal (eBin gEq (eVar 3) (eC (.int 8)))) (sExpr (eMeth mAppend (eVar 6) (aCons (eVar 2) aNil))) sNil) (sSeq (sIf (bVal (eBin gEq (eVar 3) (eC (.int 9)))) (sExpr (eMeth mPop (eVar 6) aNil)) sNil) (sSeq (sIf (bVal (eBin gEq (eVar 3) (eC (.int 10)))) (sExpr (eMeth mPopAt (eVar 4) (aCons (eVar 5) aNil))) sNil) (sSeq (sIf (bVal (eBin gEq (eVar 3) (eC (.int 11)))) g__law_changed_9 sNil) (sSeq (sIf (tAndB (bVal (eBin gEq (eVar 3) (eC (.int 12)))) (bVal (eBin gGt (eVar 5) (eC (.int 0))))) g__law_changed_10 sNil) (sSeq (sIf (bVal (eBin gEq (eVar 3) (eC (.int 13)))) g__law_changed_11 sNil) (sSeq (sIf (bVal (eBin gEq (eVar 3) (eC (.int 14)))) g__law_changed_12 sNil) (sSeq (sAsg (eComp [8] (iOf (eVar 4) kSeq) (gNm 8) tYesB (eCall bTuple (aCons (eVar 8) aNil))) (gNm 7)) (sSeq (sIf (bVal (eBin gEq (eVar 3) (eC (.int 15)))) g__law_changed_13 sNil) (sRet (eCall bTuple (aCons (eVar 7) aNil))))))))))))))))))))))))
def F__law_changed : List U → Gp → R U := defF 3 9 g__law_changed
theorem ar__law_changed : Ar 3 F__law_changed := ar_defF
theorem run__law_changed (x0 x1 x2 : U) (G : Gp) : F__law_changed [x0, x1, x2] G = fin (g__law_changed [some x0, some x1, some x2, none, none, none, none, none, none] G) := defF_eq rfl G rfl
def g__law_papers_right_1 : Ev → Gp → SR := (sIf (tNotB (bVal (eCall F__law_judged (aCons (eVar 1) (aCons (eVar 2) (aCons (eVar 6) (aCons (eVar 4) aNil))))))) (sRet (eC (.bl false))) sNil)
def g__law_papers_right_2 : Ev → Gp → SR := (sSeq (sIf (tOrB (tNotB (bVal (eCall F__law_judged (aCons (eVar 1) (aCons (eVar 2) (aCons (eVar 6) (aCons (eVar 9) aNil))))))) (tNotB (bVal (eCall F__law_judged (aCons (eVar 1) (aCons (eVar 2) (aCons (eBin gAdd (eVar 6) (eC (.int 1))) (aCons (eVar 9) aNil)))))))) (sRet (eC (.bl false))) sNil) (sIf (tNotB (bVal (eCall F__law_judged (aCons (eVar 1) (aCons (eVar 2) (aCons (eVar 5) (aCons (eVar 9) aNil))))))) (sRet (eC (.bl false))) sNil))
def g__law_papers_right_3 : Ev → Gp → SR := (sSeq (sAsg (eCall F__law_free_paper (aCons (eVar 0) (aCons (eVar 1) (aCons (eVar 2) (aCons (eBin gAdd (eC (.int 1)) (eCall F__law_next (aCons (eVar 0) (aCons (eVar 3) aNil)))) aNil))))) (gNm 8)) (sSeq (sAsg (eCall bMin (aCons (eComp [10] (iOf (eVar 8) kSeq) (gNm 10) tYesB (eCall bSum (aCons (eSl (eVar 1) (pInt (eBin gIdx (eVar 10) (eC (.int 0)))) (pInt (eBin gIdx (eVar 10) (eC (.int 1))))) aNil))) aNil)) (gNm 6)) (sFor (iOf (eTup (aCons (eVar 8) (aCons (eCall F__law_changed (aCons (eVar 0) (aCons (eVar 8) (aCons (eCall bLen (aCons (eVar 1) aNil)) aNil)))) (aCons (eCall F__law_changed (aCons (eVar 0) (aCons (eVar 4) (aCons (eCall bLen (aCons (eVar 1) aNil)) aNil)))) aNil)))) kSeq) (gNm 9) g__law_papers_right_2)))
def g__law_papers_right : Ev → Gp → SR := (sSeq (sAsg (eCall F__law_paper (aCons (eVar 1) (aCons (eVar 2) (aCons (eVar 3) aNil)))) (gNm 4)) (sSeq (sAsg (eBin gIdx (eTup (aCons (eC (.int 0)) (aCons (eUn gNeg (eC (.int 1))) (aCons (eBin gSub (eVar 3) (eC (.int 1))) (aCons (eBin gSub (eC (.int 1)) (eBin gPow (eC (.int 10)) (eC (.int 30)))) aNil))))) (eCall F__law_next (aCons (eVar 0) (aCons (eC (.int 4)) aNil)))) (gNm 5)) (sSeq (sFor (iOf (eTup (aCons (eVar 3) (aCons (eBin gAdd (eVar 3) (eC (.int 1))) (aCons (eBin gPow (eC (.int 10)) (eC (.int 30))) (aCons (eVar 5) aNil))))) kSeq) (gNm 6) g__law_papers_right_1) (sSeq (sFor (iOfs (aCons (eC (.int 4)) aNil) kRng1) (gNm 7) g__law_papers_right_3) (sRet (eAnd (eCall F__law_judged (aCons (eVar 1) (aCons (eVar 2) (aCons (eVar 3) (aCons (eCall F__law_odd (aCons (eVar 0) aNil)) aNil))))) (eCall F__law_judged (aCons (eVar 1) (aCons (eVar 2) (aCons (eVar 3) (aCons (eVar 4) aNil)))))))))))
def F__law_papers_right : List U → Gp → R U := defF 4 11 g__law_papers_right
theorem ar__law_papers_right : Ar 4 F__law_papers_right := ar_defF
theorem run__law_papers_right (x0 x1 x2 x3 : U) (G : Gp) : F__law_papers_right [x0, x1, x2, x3] G = fin (g__law_papers_right [some x0, some x1, some x2, some x3, none, none, none, none, none, none, none] G) := defF_eq rfl G rfl
def g__law_bad_costs_1 : Ev → Gp → SR := (sRet (eTup (aCons (eCall F__law_odd (aCons (eVar 0) aNil)) (aCons (eC (.int 0)) aNil))))
def g__law_bad_costs_2 : Ev → Gp → SR := (sRet (eTup (aCons (eComp [6] (iOfs (aCons (eC (.int 15)) aNil) kRng1) (gNm 6) tYesB (eBin gIdx (eVar 1) (eBin gMod (eVar 6) (eCall bLen (aCons (eVar 1) aNil))))) (aCons (eC (.int 0)) aNil))))
def g__law_bad_costs_3 : Ev → Gp → SR := (sAsg (eCall F__law_odd (aCons (eVar 0) aNil)) (gSubE (eVar 3) (eVar 4)))
def g__law_bad_costs_4 : Ev → Gp → SR := (sAsg (eCall F__law_odd (aCons (eVar 0) aNil)) (gSubE (eVar 3) (eVar 5)))
def g__law_bad_costs : Ev → Gp → SR := (sSeq (sAsg (eCall F__law_next (aCons (eVar 0) (aCons (eC (.int 5)) aNil))) (gNm 2)) (sSeq (sIf (bVal (eBin gEq (eVar 2) (eC (.int 0)))) g__law_bad_costs_1 sNil) (sSeq (sIf (bVal (eBin gEq (eVar 2) (eC (.int 1)))) g__law_bad_costs_2 sNil) (sSeq (sAsg (eCall bList (aCons (eVar 1) aNil)) (gNm 3)) (sSeq (sAsg (eCall F__law_next (aCons (eVar 0) (aCons (eCall bLen (aCons (eVar 3) aNil)) aNil))) (gNm 4)) (sSeq (sAsg (eC (.int 1001)) (gSubE (eVar 3) (eVar 4))) (sSeq (sIf (bVal (eBin gGt (eVar 2) (eC (.int 2)))) g__law_bad_costs_3 sNil) (sSeq (sAsg (eBin gAdd (eBin gAdd (eVar 4) (eC (.int 1))) (eCall F__law_next (aCons (eVar 0) (aCons (eC (.int 3)) aNil)))) (gNm 5)) (sSeq (sIf (bVal (eBin gLt (eVar 5) (eCall bLen (aCons (eVar 3) aNil)))) g__law_bad_costs_4 sNil) (sRet (eTup (aCons (eVar 3) (aCons (eVar 4) aNil)))))))))))))
def F__law_bad_costs : List U → Gp → R U := defF 2 7 g__law_bad_costs
theorem ar__law_bad_costs : Ar 2 F__law_bad_costs := ar_defF
theorem run__law_bad_costs (x0 x1 : U) (G : Gp) : F__law_bad_costs [x0, x1] G = fin (g__law_bad_costs [some x0, some x1, none, none, none, none, none] G) := defF_eq rfl G rfl
def g__law_refused_1 : Ev → Gp → SR := (sSeq (sAsg (eBin gIdx (eTup (aCons (eVar 4) (aCons (eCall F__law_odd (aCons (eVar 0) aNil)) aNil))) (eCall F__law_next (aCons (eVar 0) (aCons (eC (.int 2)) aNil)))) (gNm 6)) (sSeq (sAsg (eBin gIdx (eTup (aCons (eCall F__law_odd (aCons (eVar 0) aNil)) (aCons (eBin gAdd (eCall bLen (aCons (eVar 1) aNil)) (eC (.int 1))) aNil))) (eCall F__law_next (aCons (eVar 0) (aCons (eC (.int 2)) aNil)))) (gNm 7)) (sSeq (sIf (tNotB (bVal (eCall (F__law_same 40) (aCons (eCall F__law_told (aCons (eVar 5) (aCons (eCall bList (aCons (eVar 1) aNil)) (aCons (eVar 7) (aCons (eVar 3) (aCons (eVar 6) aNil)))))) (aCons (eTup (aCons (eC (.str ("number" : Str))) (aCons (eVar 7) aNil))) aNil))))) (sRet (eC (.bl false))) sNil) (sSeq (sAsg (eCall F__law_bad_costs (aCons (eVar 0) (aCons (eVar 1) aNil))) (gNm 8)) (sSeq (sAsg (eBin gIdx (eTup (aCons (eVar 2) (aCons (eVar 7) aNil))) (eCall F__law_next (aCons (eVar 0) (aCons (eC (.int 2)) aNil)))) (gNm 9)) (sIf (tNotB (bVal (eCall (F__law_same 40) (aCons (eCall F__law_told (aCons (eVar 5) (aCons (eBin gIdx (eVar 8) (eC (.int 0))) (aCons (eVar 9) (aCons (eVar 3) (aCons (eVar 6) aNil)))))) (aCons (eTup (aCons (eC (.str ("row" : Str))) (aCons (eBin gIdx (eVar 8) (eC (.int 1))) aNil))) aNil))))) (sRet (eC (.bl false))) sNil))))))
def g__law_refused : Ev → Gp → SR := (sSeq (sAsg (eCall F__law_paper (aCons (eVar 1) (aCons (eVar 2) (aCons (eVar 3) aNil)))) (gNm 4)) (sSeq (sFor (iOfs (aCons (eC (.int 3)) aNil) kRng1) (gNm 5) g__law_refused_1) (sRet (eC (.bl true)))))
def F__law_refused : List U → Gp → R U := defF 4 10 g__law_refused
theorem ar__law_refused : Ar 4 F__law_refused := ar_defF
theorem run__law_refused (x0 x1 x2 x3 : U) (G : Gp) : F__law_refused [x0, x1, x2, x3] G = fin (g__law_refused [some x0, some x1, some x2, some x3, none, none, none, none, none, none] G) := defF_eq rfl G rfl
def g_law : Ev → Gp → SR := (sSeq (sAsg (eCall F__law_draws (aCons (eVar 0) aNil)) (gNm 1)) (sSeq (sAsg (eCall F__law_prices (aCons (eVar 1) aNil)) (gNm 2)) (sSeq (sAsg (eBin gAdd (eC (.int 1)) (eCall F__law_next (aCons (eVar 1) (aCons (eCall bLen (aCons (eVar 2) aNil)) aNil)))) (gNm 3)) (sSeq (sIf (bVal (eBin gEq (eCall F__law_next (aCons (eVar 1) (aCons (eC (.int 4)) aNil))) (eC (.int 0)))) (sAsg (eC (.int 1)) (gNm 3)) sNil) (sSeq (sAsg (eCall F__law_least (aCons (eVar 2) (aCons (eVar 3) aNil))) (gNm 4)) (sSeq (sAsg (eCall bList (aCons (eVar 2) aNil)) (gNm 5)) (sSeq (sAsg (eCall F__law_paper (aCons (eVar 2) (aCons (eVar 3) (aCons (eVar 4) aNil)))) (gNm 6)) (sSeq (sIf (tOrB (tNotB (bVal (eCall (F__law_same 40) (aCons (eCall F__law_told (aCons (eC (.int 1)) (aCons (eVar 5) (aCons (eVar 3) (aCons (eC (.int 0)) (aCons (eC .non) aNil)))))) (aCons (eTup (aCons (eC (.str ("told" : Str))) (aCons (eVar 6) aNil))) aNil))))) (bVal (eBin gNe (eVar 5) (eVar 2)))) (sRet (eC (.bl false))) sNil) (sSeq (sIf (tNotB (bVal (eCall (F__law_same 40) (aCons (eCall F__law_told (aCons (eC (.int 1)) (aCons (eCall bTuple (aCons (eVar 2) aNil)) (aCons (eVar 3) (aCons (eC (.int 0)) (aCons (eC .non) aNil)))))) (aCons (eTup (aCons (eC (.str ("told" : Str))) (aCons (eVar 6) aNil))) aNil))))) (sRet (eC (.bl false))) sNil) (sSeq (sIf (tOrB (tNotB (bVal (eCall (F__law_same 40) (aCons (eCall F__law_told (aCons (eC (.int 0)) (aCons (eVar 5) (aCons (eVar 3) (aCons (eC (.int 0)) (aCons (eC .non) aNil)))))) (aCons (eTup (aCons (eC (.str ("told" : Str))) (aCons (eVar 4) aNil))) aNil))))) (bVal (eBin gNe (eVar 5) (eVar 2)))) (sRet (eC (.bl false))) sNil) (sSeq (sIf (tOrB (tNotB (bVal (eCall F__law_papers_right (aCons (eVar 1) (aCons (eVar 2) (aCons (eVar 3) (aCons (eVar 4) aNil))))))) (tNotB (bVal (eCall F__law_refused (aCons (eVar 1) (aCons (eVar 2) (aCons (eVar 3) (aCons (eVar 4) aNil)))))))) (sRet (eC (.bl false))) sNil) (sSeq (sAsg (eBin gAdd (eC (.int 1)) (eCall F__law_next (aCons (eVar 1) (aCons (eC (.int 1000)) aNil)))) (gSubE (eVar 5) (eCall F__law_next (aCons (eVar 1) (aCons (eCall bLen (aCons (eVar 5) aNil)) aNil))))) (sSeq (sAsg (eCall F__law_paper (aCons (eCall bList (aCons (eVar 5) aNil)) (aCons (eVar 3) (aCons (eCall F__law_least (aCons (eCall bList (aCons (eVar 5) aNil)) (aCons (eVar 3) aNil))) aNil)))) (gNm 7)) (sSeq (sIf (tNotB (bVal (eCall (F__law_same 40) (aCons (eCall F__law_told (aCons (eC (.int 1)) (aCons (eVar 5) (aCons (eVar 3) (aCons (eC (.int 0)) (aCons (eC .non) aNil)))))) (aCons (eTup (aCons (eC (.str ("told" : Str))) (aCons (eVar 7) aNil))) aNil))))) (sRet (eC (.bl false))) sNil) (sSeq (sIf (bVal (eBin gGt (eCall bLen (aCons (eVar 2) aNil)) (eC (.int 4)))) (sAsg (eSl (eVar 2) pNo (pInt (eC (.int 4)))) (gNm 2)) sNil) (sRet (eCall F__law_small_right (aCons (eVar 2) (aCons (eCall bSum (aCons (eVar 2) aNil)) aNil)))))))))))))))))))
def F_law : List U → Gp → R U := defF 1 8 g_law
theorem ar_law : Ar 1 F_law := ar_defF
theorem run_law (x0 : U) (G : Gp) : F_law [x0] G = fin (g_law [some x0, none, none, none, none, none, none, none] G) := defF_eq rfl G rfl
end K02

set_option Elab.async false
set_option linter.all false
set_option maxRecDepth 100000
set_option maxHeartbeats 4000000
set_option autoImplicit false
/-! cuts of a row: plain -/
namespace K02
def PosR (row : List Int) : Prop := ∀ c ∈ row, 1 ≤ c
/-- new stages behind one with so much left -/
def gr (top : Int) : Int → List Int → Nat
  | _, [] => 0
  | left, c :: r => if c ≤ left then gr top (left - c) r else 1 + gr top (top - c) r
def need (row : List Int) (top : Int) : Nat := gr top 0 row
theorem gr_mono {top : Int} : ∀ {row : List Int}, (∀ c ∈ row, 1 ≤ c ∧ c ≤ top) → ∀ {a b : Int}, a ≤ b → b ≤ top → gr top b row ≤ gr top a row ∧ gr top a row ≤ 1 + gr top b row
  | [], _, _, _, _, _ => ⟨Nat.le_refl _, by unfold gr; omega⟩
  | c :: r, h, a, b, hab, hb => by
    have hc := h c List.mem_cons_self
    have hr : ∀ c ∈ r, 1 ≤ c ∧ c ≤ top := fun c hc => h c (List.mem_cons_of_mem _ hc)
    unfold gr
    by_cases h1 : c ≤ a
    · rw [if_pos h1, if_pos (by omega)]
      exact gr_mono hr (by omega) (by omega)
    · by_cases h2 : c ≤ b
      · rw [if_neg h1, if_pos h2]
        have := gr_mono hr (a := b - c) (b := top - c) (by omega) (by omega)
        omega
      · rw [if_neg h1, if_neg h2]
        omega
theorem sum_nonneg {p : List Int} (h : PosR p) : 0 ≤ p.sum := by
  induction p with
  | nil => simp
  | cons d t ih =>
    have := ih (fun c hc => h c (List.mem_cons_of_mem _ hc))
    have := h d List.mem_cons_self
    simp; omega
theorem gr_cons {top left c : Int} {r : List Int} : gr top left (c :: r) = if c ≤ left then gr top (left - c) r else 1 + gr top (top - c) r := by rw [gr]
theorem gr_app {top : Int} {rest : List Int} : ∀ {p : List Int}, PosR p → ∀ {left : Int}, p.sum ≤ left → gr top left (p ++ rest) = gr top (left - p.sum) rest
  | [], _, left, _ => by simp
  | c :: r, h, left, hs => by
    have hr : PosR r := fun c hc => h c (List.mem_cons_of_mem _ hc)
    have hp := sum_nonneg hr
    rw [List.sum_cons] at hs ⊢
    rw [List.cons_append, gr_cons, if_pos (by omega), gr_app hr (by omega)]
    congr 1
    omega
theorem len_le_sum {p : List Int} (h : PosR p) : (p.length : Int) ≤ p.sum := by
  induction p with
  | nil => simp
  | cons d t ih =>
    have := ih (fun c hc => h c (List.mem_cons_of_mem _ hc))
    have := h d List.mem_cons_self
    simp; omega
/-- parts that keep the bound -/
def Pts (top : Int) (ps : List (List Int)) : Prop := ∀ p ∈ ps, p ≠ [] ∧ p.sum ≤ top
theorem posR_flat {ps : List (List Int)} (h : PosR ps.flatten) : ∀ p ∈ ps, PosR p := fun p hp c hc => h c (List.mem_flatten.mpr ⟨p, hp, hc⟩)
theorem mem_le_top {top : Int} {p : List Int} (h : PosR p) (hs : p.sum ≤ top) : ∀ c ∈ p, 1 ≤ c ∧ c ≤ top := by
  induction p generalizing top with
  | nil => intro c hc; simp at hc
  | cons d t ih =>
    have ht : PosR t := fun c hc => h c (List.mem_cons_of_mem _ hc)
    have h0 := sum_nonneg ht
    have hd := h d List.mem_cons_self
    simp at hs
    intro c hc
    rcases List.mem_cons.mp hc with e | e
    · rw [e]; omega
    · exact ih (top := top) ht (by omega) c e
/-- the greedy way is the least -/
theorem need_le {top : Int} : ∀ {ps : List (List Int)}, Pts top ps → PosR ps.flatten → need ps.flatten top ≤ ps.length
  | [], _, _ => by simp [need, gr]
  | p :: ps, h, hp => by
    have hpp := h p List.mem_cons_self
    have pos : PosR p := posR_flat hp p List.mem_cons_self
    have hps : PosR ps.flatten := fun c hc => hp c (by simp at hc ⊢; exact Or.inr hc)
    have ht : Pts top ps := fun q hq => h q (List.mem_cons_of_mem _ hq)
    have ih := need_le ht hps
    have hall : ∀ c ∈ ps.flatten, 1 ≤ c ∧ c ≤ top := fun c hc => by
      obtain ⟨q, hq, hcq⟩ := List.mem_flatten.mp hc
      exact mem_le_top (posR_flat hps q hq) (ht q hq).2 c hcq
    unfold need at ih ⊢
    match p, hpp, pos with
    | c :: t, hpp, pos =>
      have hc := pos c List.mem_cons_self
      have ptt : PosR t := fun c hc => pos c (List.mem_cons_of_mem _ hc)
      have hs : c + t.sum ≤ top := by simpa using hpp.2
      have h0 := sum_nonneg ptt
      rw [List.flatten_cons, List.cons_append]
      unfold gr
      rw [if_neg (by omega), gr_app ptt (by omega)]
      have := (gr_mono hall (a := 0) (b := top - c - t.sum) (by omega) (by omega)).1
      simp
      omega
theorem gr_parts {top : Int} : ∀ {row : List Int}, (∀ c ∈ row, 1 ≤ c ∧ c ≤ top) → ∀ {left : Int}, 0 ≤ left → ∃ q ps, row = q ++ ps.flatten ∧ q.sum ≤ left ∧ ps.length = gr top left row ∧ Pts top ps
  | [], _, left, hl => ⟨[], [], rfl, by simpa using hl, rfl, fun p hp => by simp at hp⟩
  | c :: r, h, left, hl => by
    have hc := h c List.mem_cons_self
    have hr : ∀ c ∈ r, 1 ≤ c ∧ c ≤ top := fun c hc => h c (List.mem_cons_of_mem _ hc)
    unfold gr
    by_cases h1 : c ≤ left
    · rw [if_pos h1]
      obtain ⟨q, ps, e1, e2, e3, e4⟩ := gr_parts hr (left := left - c) (by omega)
      exact ⟨c :: q, ps, by rw [e1]; rfl, by simp; omega, e3, e4⟩
    · rw [if_neg h1]
      obtain ⟨q, ps, e1, e2, e3, e4⟩ := gr_parts hr (left := top - c) (by omega)
      refine ⟨[], (c :: q) :: ps, by rw [e1]; simp, by simpa using hl, by simp [e3]; omega, fun p hp => ?_⟩
      rcases List.mem_cons.mp hp with e | e
      · rw [e]; exact ⟨List.cons_ne_nil _ _, by simp; omega⟩
      · exact e4 p e
theorem need_parts {top : Int} {row : List Int} (h : ∀ c ∈ row, 1 ≤ c ∧ c ≤ top) : ∃ ps, row = ps.flatten ∧ ps.length = need row top ∧ Pts top ps := by
  obtain ⟨q, ps, e1, e2, e3, e4⟩ := gr_parts h (left := 0) (Int.le_refl _)
  match q, e1, e2 with
  | [], e1, e2 => exact ⟨ps, e1, e3, e4⟩
  | c :: t, e1, e2 =>
    have pos : PosR (c :: t) := fun d hd => (h d (by rw [e1]; exact List.mem_append_left _ hd)).1
    have := len_le_sum pos
    simp at this e2
    omega
/-- one part more -/
theorem split_one {top : Int} : ∀ {ps : List (List Int)}, Pts top ps → PosR ps.flatten → ps.length < ps.flatten.length → ∃ qs, qs.flatten = ps.flatten ∧ qs.length = ps.length + 1 ∧ Pts top qs
  | [], _, _, h => by simp at h
  | p :: ps, h, hp, hl => by
    have hpp := h p List.mem_cons_self
    have ht : Pts top ps := fun q hq => h q (List.mem_cons_of_mem _ hq)
    have pos : PosR p := posR_flat hp p List.mem_cons_self
    have hps : PosR ps.flatten := fun c hc => hp c (by simp at hc ⊢; exact Or.inr hc)
    match p, hpp, pos with
    | [c], hpp, pos =>
      obtain ⟨qs, e1, e2, e3⟩ := split_one ht hps (by simp at hl ⊢; omega)
      refine ⟨[c] :: qs, by simp at e1 ⊢; exact e1, by simp [e2], fun q hq => ?_⟩
      rcases List.mem_cons.mp hq with e | e
      · rw [e]; exact hpp
      · exact e3 q e
    | c :: d :: t, hpp, pos =>
      have hc := pos c List.mem_cons_self
      have p2 : PosR (d :: t) := fun c hc => pos c (List.mem_cons_of_mem _ hc)
      have h0 := len_le_sum p2
      have hs : c + (d :: t).sum ≤ top := by simpa using hpp.2
      refine ⟨[c] :: (d :: t) :: ps, by simp, by simp, fun q hq => ?_⟩
      rcases List.mem_cons.mp hq with e | e
      · rw [e]; refine ⟨List.cons_ne_nil _ _, ?_⟩
        simp at h0 ⊢; simp at hs; omega
      · rcases List.mem_cons.mp e with e | e
        · rw [e]; exact ⟨List.cons_ne_nil _ _, by omega⟩
        · exact ht q e
theorem split_to {top : Int} {row : List Int} (hp : PosR row) : ∀ (m : Nat) {ps : List (List Int)}, Pts top ps → ps.flatten = row → ps.length + m ≤ row.length → ∃ qs, qs.flatten = row ∧ qs.length = ps.length + m ∧ Pts top qs
  | 0, ps, h, e, _ => ⟨ps, e, rfl, h⟩
  | m + 1, ps, h, e, hl => by
    obtain ⟨qs, e1, e2, e3⟩ := split_one h (by rw [e]; exact hp) (by rw [e]; omega)
    obtain ⟨rs, f1, f2, f3⟩ := split_to hp m e3 (e1.trans e) (by omega)
    exact ⟨rs, f1, by omega, f3⟩
/-- can be cut into s parts -/
def Cut (top : Int) : Nat → List Int → Prop
  | 0, row => row = []
  | s + 1, row => ∃ e, 1 ≤ e ∧ e ≤ row.length ∧ (row.take e).sum ≤ top ∧ Cut top s (row.drop e)
theorem cut_iff_parts {top : Int} : ∀ {s : Nat} {row : List Int}, Cut top s row ↔ ∃ ps, ps.flatten = row ∧ ps.length = s ∧ Pts top ps
  | 0, row => ⟨fun h => ⟨[], h.symm, rfl, fun p hp => by simp at hp⟩, fun ⟨ps, e, hl, _⟩ => by
    have : ps = [] := List.length_eq_zero_iff.mp hl
    subst this; exact e.symm⟩
  | s + 1, row => ⟨fun ⟨e, h1, h2, h3, h4⟩ => by
      obtain ⟨ps, e1, e2, e3⟩ := cut_iff_parts.mp h4
      refine ⟨row.take e :: ps, by rw [List.flatten_cons, e1, List.take_append_drop], by simp [e2], fun p hp => ?_⟩
      rcases List.mem_cons.mp hp with q | q
      · rw [q]; refine ⟨fun z => ?_, h3⟩
        have := congrArg List.length z
        rw [List.length_take] at this
        simp only [List.length_nil] at this; omega
      · exact e3 p q, fun ⟨ps, e, hl, hp⟩ => by
      match ps, e, hl, hp with
      | p :: ps, e, hl, hp =>
        have hpp := hp p List.mem_cons_self
        refine ⟨p.length, List.length_pos_iff.mpr hpp.1, by rw [← e]; simp, by rw [← e]; simp; exact hpp.2, cut_iff_parts.mpr ⟨ps, by rw [← e]; simp, by simpa using hl, fun q hq => hp q (List.mem_cons_of_mem _ hq)⟩⟩⟩
theorem cut_iff {top : Int} {s : Nat} {row : List Int} (h : ∀ c ∈ row, 1 ≤ c ∧ c ≤ top) : Cut top s row ↔ need row top ≤ s ∧ s ≤ row.length := by
  have hp : PosR row := fun c hc => (h c hc).1
  rw [cut_iff_parts]
  constructor
  · rintro ⟨ps, e, hl, hq⟩
    refine ⟨by rw [← e, ← hl]; exact need_le hq (by rw [e]; exact hp), ?_⟩
    rw [← e, ← hl]
    clear e hl
    induction ps with
    | nil => simp
    | cons p ps ih =>
      have := ih (fun q hq' => hq q (List.mem_cons_of_mem _ hq'))
      have := List.length_pos_iff.mpr (hq p List.mem_cons_self).1
      simp at *; omega
  · rintro ⟨h1, h2⟩
    obtain ⟨ps, e1, e2, e3⟩ := need_parts h
    obtain ⟨qs, f1, f2, f3⟩ := split_to hp (s - need row top) e3 e1.symm (by omega)
    exact ⟨qs, f1, by omega, f3⟩
theorem need_mono {row : List Int} {t t' : Int} (h : ∀ c ∈ row, 1 ≤ c ∧ c ≤ t) (ht : t ≤ t') : need row t' ≤ need row t := by
  obtain ⟨ps, e1, e2, e3⟩ := need_parts h
  rw [← e2]
  have : need ps.flatten t' ≤ ps.length := need_le (fun p hp => ⟨(e3 p hp).1, Int.le_trans (e3 p hp).2 ht⟩) (by rw [← e1]; exact fun c hc => (h c hc).1)
  rw [← e1] at this
  exact this
end K02

set_option Elab.async false
set_option linter.all false
set_option maxRecDepth 100000
set_option maxHeartbeats 4000000
set_option autoImplicit false
namespace K02
open PySem PySem.Spec L2 FL

/-! ### draws -/
theorem mPop0 {G : Gp} {l : Nat} {y : U} {ys : List U} (h : G[l]? = some (.lst (y :: ys))) : mPopAt (.ref l) [.int 0] G = .ok y (G.set l (.lst ys)) := by
  unfold mPopAt
  have e : ixN (y :: ys).length (0 : Int) = some 0 := by
    unfold ixN
    rw [if_pos (Int.le_refl 0), if_pos (by simp)]
    rfl
  simp only [h, e]
  rfl
def DrL (ds : List Int) : Prop := 2 ≤ ds.length ∧ ds.length ≤ 10000 ∧ ∀ d ∈ ds, 0 ≤ d ∧ d < 2 ^ 40
def Dr (G : Gp) : Prop := ∃ ds : List Int, DrL ds ∧ G[0]? = some (.lst (ds.map .int))
theorem small40 {d : Int} (h : 0 ≤ d ∧ d < 2 ^ 40) : d.natAbs < 2 ^ 64 := by omega
theorem set_get {G : Gp} {l : Nat} {x y : OU} (h : G[l]? = some x) : (G.set l y)[l]? = some y := List.getElem?_set_self (List.getElem?_eq_some_iff.mp h).1
theorem mod_small {i j : Int} (h : 0 < j) (h2 : j < 2 ^ 40) : 0 ≤ i % j ∧ i % j < 2 ^ 40 := ⟨Int.emod_nonneg _ (by omega), by have := Int.emod_lt_of_pos i h; omega⟩
/-- the other lists stay -/
def Oth (G G' : Gp) : Prop := G'.length = G.length ∧ ∀ l, l ≠ 0 → G'[l]? = G[l]?
theorem next_spec {G : Gp} {b : Int} (hD : Dr G) (hb : 0 < b) : ∃ r G', F__law_next [.ref 0, .int b] G = .ok (.int r) G' ∧ 0 ≤ r ∧ r < b ∧ Oth G G' ∧ Dr G' := by
  obtain ⟨ds, ⟨h2, h3, h4⟩, h⟩ := hD
  match ds, h2, h3, h4, h with
  | d :: e :: r, h2, h3, h4, h =>
    have hd := h4 d List.mem_cons_self
    obtain ⟨z, hz⟩ : ∃ z, (e :: r).getLast? = some z := ⟨(e :: r).getLast (List.cons_ne_nil _ _), List.getLast?_eq_some_getLast _⟩
    have hzm : z ∈ d :: e :: r := List.mem_cons_of_mem _ (List.mem_of_getLast? hz)
    have hzs := h4 z hzm
    have hz' : ((e :: r).map U.int).getLast? = some (.int z) := by rw [List.getLast?_map, hz]; rfl
    have p0 : mPopAt (.ref 0) [.int 0] G = .ok (.int d) (G.set 0 (.lst ((e :: r).map .int))) := mPop0 (by rw [h]; rfl)
    have g1 : (G.set 0 (.lst ((e :: r).map .int)))[0]? = some (.lst ((e :: r).map .int)) := set_get h
    generalize hG1 : G.set 0 (.lst ((e :: r).map .int)) = G1 at p0 g1
    have m1 : gMul (.int d) (.int d) G1 = .ok (.int (d * d)) G1 := gMul_ii (mulOk_small (small40 hd))
    have m2 : gMul (.int z) (.int 48271) G1 = .ok (.int (z * 48271)) G1 := gMul_ii (mulOk_small (small40 hzs))
    have i1 : gIdx (.ref 0) (.int (-1)) G1 = .ok (.int z) G1 := gIdx_ref g1 (atI_last hz')
    have m3 : gMod (.int (d * d + z * 48271 + 12345)) (.int 1000000007) G1 = .ok (.int ((d * d + z * 48271 + 12345) % 1000000007)) G1 := gMod_ii (by decide)
    have a1 : mAppend (.ref 0) [.int ((d * d + z * 48271 + 12345) % 1000000007)] G1 = .ok .non (G1.set 0 (.lst ((e :: r).map .int ++ [.int ((d * d + z * 48271 + 12345) % 1000000007)]))) := mAppend_ref g1 (by simp at h3 ⊢; omega)
    have m4 : ∀ G', gMod (.int d) (.int b) G' = .ok (.int (d % b)) G' := fun G' => gMod_ii hb
    have l0 := isLst_ref h
    have l1 := isLst_ref g1
    refine ⟨d % b, G1.set 0 (.lst ((e :: r).map .int ++ [.int ((d * d + z * 48271 + 12345) % 1000000007)])), ?_, Int.emod_nonneg _ (by omega), Int.emod_lt_of_pos _ hb, ?_, ?_⟩
    · rw [run__law_next]
      simp [g__law_next, eMeth_, l0, p0, l1, m1, m2, i1, m3, a1, m4]
    · subst hG1
      refine ⟨by simp, fun l hl => ?_⟩
      rw [List.getElem?_set_ne (Ne.symm hl), List.getElem?_set_ne (Ne.symm hl)]
    · refine ⟨(e :: r) ++ [(d * d + z * 48271 + 12345) % 1000000007], ⟨by simp, by simp at h3 ⊢; omega, fun x hx => ?_⟩, ?_⟩
      · rcases List.mem_append.mp hx with hx | hx
        · exact h4 x (List.mem_cons_of_mem _ hx)
        · rw [List.mem_singleton] at hx
          rw [hx]
          exact mod_small (by decide) (by decide)
      · rw [List.map_append]
        exact set_get g1
theorem cutU_map {α : Type} (f : α → U) (xs : List α) (lo hi : Option Int) : cutU (xs.map f) lo hi = (cutU xs lo hi).map f := by
  unfold cutU
  simp [List.map_take, List.map_drop]
theorem cutU_mem {α : Type} {xs : List α} {lo hi : Option Int} {x : α} (h : x ∈ cutU xs lo hi) : x ∈ xs := List.mem_of_mem_drop (List.mem_of_mem_take h)
theorem cutU_len {α : Type} (xs : List α) (lo hi : Option Int) : (cutU xs lo hi).length ≤ xs.length := by
  unfold cutU
  simp
  omega
/-- the draws so far -/
def Sm (ds : List Int) : Prop := ∀ d ∈ ds, 0 ≤ d ∧ d < 2 ^ 40
theorem Sm.add {ds : List Int} (h : Sm ds) {d : Int} (hd : 0 ≤ d ∧ d < 2 ^ 40) : Sm (ds ++ [d]) := fun x hx => by
  rcases List.mem_append.mp hx with hx | hx
  · exact h x hx
  · rw [List.mem_singleton] at hx; rw [hx]; exact hd
def EnvD (xs : List U) (last : Int) (a b c : Option U) : Ev := [some (.rl xs), some (.ref 0), some (.int last), a, b, c]
theorem draws_in {xs ys : List U} {last cell : Int} {b c : Option U} {ds : List Int} (hs : Sm ds) (hl : ds.length ≤ 10000 - 60) (P : SR → Prop)
    (hP : ∀ b c (ds' : List Int), Sm ds' → ds'.length ≤ ds.length + 60 → P (.nx (EnvD xs last (some (.int cell)) b c) [.lst (ds'.map .int), .lst ys])) :
    P (g__law_draws_3 (EnvD xs last (some (.int cell)) b c) [.lst (ds.map .int), .lst ys]) := by
  have e : g__law_draws_3 (EnvD xs last (some (.int cell)) b c) [.lst (ds.map .int), .lst ys] =
      sFor (iOfs (aCons (eC (.int 60)) aNil) kRng1) (gNm 5) g__law_draws_2 (EnvD xs last (some (.int cell)) (some (.int cell)) c) [.lst (ds.map .int), .lst ys] := by
    simp [g__law_draws_3, EnvD]
  rw [e]
  refine sFor_rng1 (j := 60) (G1 := [.lst (ds.map .int), .lst ys]) (fun i env G => ∃ (rest : Int) (k : Option U) (ds' : List Int), env = EnvD xs last (some (.int cell)) (some (.int rest)) k ∧ G = [.lst (ds'.map .int), .lst ys] ∧ Sm ds' ∧ ds'.length ≤ ds.length + i) P (by simp) (by decide) (by decide) ⟨cell, c, ds, rfl, rfl, hs, by omega⟩ ?_ ?_
  · rintro i hi env G ⟨rest, k, ds', rfl, rfl, h1, h2⟩
    have hi : i < 60 := hi
    by_cases hr : 0 < rest
    · have m1 : ∀ G', gMod (.int rest) (.int 1000000) G' = .ok (.int (rest % 1000000)) G' := fun G' => gMod_ii (by decide)
      have m2 : ∀ G', gFdiv (.int rest) (.int 1000000) G' = .ok (.int (rest / 1000000)) G' := fun G' => gFdiv_ii (by decide) (by decide)
      have a1 : mAppend (.ref 0) [.int (rest % 1000000)] [.lst (ds'.map .int), .lst ys] = .ok .non [.lst (ds'.map .int ++ [.int (rest % 1000000)]), .lst ys] := mAppend_ref rfl (by simp; omega)
      have l1 : isLst (.ref 0) [.lst (ds'.map .int), .lst ys] = true := rfl
      have e : g__law_draws_2 (EnvD xs last (some (.int cell)) (some (.int rest)) (some (.int (i : Nat)))) [.lst (ds'.map .int), .lst ys] = .nx (EnvD xs last (some (.int cell)) (some (.int (rest / 1000000))) (some (.int (i : Nat)))) [.lst (ds'.map .int ++ [.int (rest % 1000000)]), .lst ys] := by
        simp [g__law_draws_2, g__law_draws_1, EnvD, eMeth_, hr, m1, m2, a1, l1]
      show after (g__law_draws_2 (EnvD xs last (some (.int cell)) (some (.int rest)) (some (.int (i : Nat)))) [.lst (ds'.map .int), .lst ys]) _ P
      rw [e]
      exact ⟨rest / 1000000, _, ds' ++ [rest % 1000000], rfl, by simp, h1.add (mod_small (by decide) (by decide)), by simp; omega⟩
    · have e : g__law_draws_2 (EnvD xs last (some (.int cell)) (some (.int rest)) (some (.int (i : Nat)))) [.lst (ds'.map .int), .lst ys] = .nx (EnvD xs last (some (.int cell)) (some (.int rest)) (some (.int (i : Nat)))) [.lst (ds'.map .int), .lst ys] := by
        simp [g__law_draws_2, g__law_draws_1, EnvD, eMeth_, hr]
      show after (g__law_draws_2 (EnvD xs last (some (.int cell)) (some (.int rest)) (some (.int (i : Nat)))) [.lst (ds'.map .int), .lst ys]) _ P
      rw [e]
      exact ⟨rest, _, ds', rfl, rfl, h1, by omega⟩
  · rintro env G ⟨rest, k, ds', rfl, rfl, h1, h2⟩
    exact hP _ _ ds' h1 h2
theorem draws_spec {ns : List Int} (h1 : ns.length ≤ 63) (h2 : ∀ z ∈ ns, Builtin.Int.intBits z ≤ 1048576) : ∃ G', F__law_draws [.rl (ns.map .int)] [] = .ok (.ref 0) G' ∧ 0 < G'.length ∧ Dr G' := by
  rw [run__law_draws]
  generalize hxs : ns.map U.int = xs
  obtain ⟨ys, hys⟩ : ∃ ys, ys = cutU ns none (some 63) := ⟨_, rfl⟩
  have hcut : cutU xs none (some 63) = ys.map .int := by rw [← hxs, cutU_map, hys]
  have hyl : ys.length ≤ 63 := by have := cutU_len ns none (some 63); rw [← hys] at this; omega
  have hyb : ∀ z ∈ ys, Builtin.Int.intBits z ≤ 1048576 := fun z hz => h2 z (cutU_mem (by rw [← hys]; exact hz))
  let I1 : Nat → Ev → Gp → Prop := fun i env G => ∃ (last : Int) (a b c : Option U) (ds : List Int), env = EnvD xs last a b c ∧ G = [.lst (ds.map .int), .lst (ys.map .int)] ∧ Sm ds ∧ ds.length ≤ 60 * i ∧ 0 ≤ last ∧ last < 2 ^ 40
  let P : SR → Prop := fun r => ∃ (last : Int) (a b c : Option U) (ds : List Int), r = .nx (EnvD xs last a b c) [.lst (ds.map .int), .lst (ys.map .int)] ∧ Sm ds ∧ ds.length ≤ 60 * 63 ∧ 0 ≤ last ∧ last < 2 ^ 40
  have L1 : P (sFor (iOf (eSl (eVar 0) pNo (pInt (eC (.int 63)))) kSeq) (gNm 3) g__law_draws_5 (EnvD xs 97 none none none) [.lst []]) := by
    refine sFor_ref (l := 1) (xs := ys.map .int) (G1 := [.lst [], .lst (ys.map .int)]) I1 P (by simp [EnvD, gSl, hcut]) rfl ?_ ⟨97, none, none, none, [], rfl, rfl, fun d hd => by simp at hd, by simp, by decide, by decide⟩ ?_ ?_
    · rintro i env G ⟨last, a, b, c, ds, rfl, rfl, _⟩
      rfl
    · rintro i hi env G ⟨last, a, b, c, ds, rfl, rfl, hs, hl, hl0, hl1⟩
      have hi' : i < ys.length := by simpa using hi
      obtain ⟨cell, hcell⟩ : ∃ cell, cell = ys[i] := ⟨_, rfl⟩
      have hcb : Builtin.Int.intBits cell ≤ 1048576 := hyb _ (by rw [hcell]; exact List.getElem_mem _)
      have hget : (ys.map U.int)[i] = .int cell := by rw [List.getElem_map, hcell]
      rw [hget]
      show after (g__law_draws_5 (EnvD xs last (some (.int cell)) b c) [.lst (ds.map .int), .lst (ys.map .int)]) _ P
      have pw : ∀ G', gPow (.int 10) (.int 18) G' = .ok (.int (10 ^ 18)) G' := fun G' => rfl
      by_cases hc : (1000000000000000000 : Int) ≤ cell
      · have e : g__law_draws_5 (EnvD xs last (some (.int cell)) b c) [.lst (ds.map .int), .lst (ys.map .int)] = g__law_draws_3 (EnvD xs last (some (.int cell)) b c) [.lst (ds.map .int), .lst (ys.map .int)] := by
          simp [g__law_draws_5, EnvD, pw, hc]
        rw [e]
        exact draws_in hs (by omega) (fun r => after r (I1 (i + 1)) P) (fun b c ds' s1 s2 => ⟨last, _, b, c, ds', rfl, rfl, s1, by omega, hl0, hl1⟩)
      · have hm1 : ∀ G', gMul (.int cell) (.int cell) G' = .ok (.int (cell * cell)) G' := fun G' => gMul_ii (mulOk_bits hcb hcb)
        have hm2 : ∀ G', gMul (.int last) (.int 48271) G' = .ok (.int (last * 48271)) G' := fun G' => gMul_ii (mulOk_small2 (by decide))
        have hm3 : ∀ x G', gMod (.int x) (.int 1000000007) G' = .ok (.int (x % 1000000007)) G' := fun x G' => gMod_ii (by decide)
        have hm4 : ∀ x G', gMod (.int x) (.int 998244353) G' = .ok (.int (x % 998244353)) G' := fun x G' => gMod_ii (by decide)
        obtain ⟨t, ht⟩ : ∃ t, t = (cell * cell + cell + last * 48271 + 12345) % 1000000007 := ⟨_, rfl⟩
        have hts := mod_small (i := cell * cell + cell + last * 48271 + 12345) (j := 1000000007) (by decide) (by decide)
        rw [← ht] at hts
        have hm5 : ∀ G', gMul (.int t) (.int t) G' = .ok (.int (t * t)) G' := fun G' => gMul_ii (mulOk_small (small40 hts))
        have a1 : mAppend (.ref 0) [.int ((t * t + 69621) % 998244353)] [.lst (ds.map .int), .lst (ys.map .int)] = .ok .non [.lst (ds.map .int ++ [.int ((t * t + 69621) % 998244353)]), .lst (ys.map .int)] := mAppend_ref rfl (by simp; omega)
        have l1 : isLst (.ref 0) [.lst (ds.map .int), .lst (ys.map .int)] = true := rfl
        have e : g__law_draws_5 (EnvD xs last (some (.int cell)) b c) [.lst (ds.map .int), .lst (ys.map .int)] = .nx (EnvD xs ((t * t + 69621) % 998244353) (some (.int cell)) b c) [.lst (ds.map .int ++ [.int ((t * t + 69621) % 998244353)]), .lst (ys.map .int)] := by
          simp [g__law_draws_5, g__law_draws_4, EnvD, pw, hc, eMeth_, hm1, hm2, hm3, hm4, ← ht, hm5, a1, l1]
        rw [e]
        have sm := mod_small (i := t * t + 69621) (j := 998244353) (by decide) (by decide)
        exact ⟨_, _, b, c, ds ++ [(t * t + 69621) % 998244353], rfl, by simp, hs.add sm, by simp; omega, sm.1, sm.2⟩
    · rintro env G ⟨last, a, b, c, ds, rfl, rfl, hs, hl, hl0, hl1⟩
      refine ⟨last, a, b, c, ds, rfl, hs, ?_, hl0, hl1⟩
      simp at hl
      omega
  obtain ⟨last, a, b, c, ds, e1, hs, hl, hl0, hl1⟩ := L1
  let I2 : Nat → Ev → Gp → Prop := fun i env G => ∃ (last : Int) (a b c : Option U) (ds : List Int), env = EnvD xs last a b c ∧ G = [.lst (ds.map .int), .lst (ys.map .int)] ∧ Sm ds ∧ i ≤ ds.length ∧ ds.length ≤ 60 * 63 + i ∧ 0 ≤ last ∧ last < 2 ^ 40
  let P2 : SR → Prop := fun r => ∃ (last : Int) (a b c : Option U) (ds : List Int), r = .nx (EnvD xs last a b c) [.lst (ds.map .int), .lst (ys.map .int)] ∧ DrL ds
  have L2 : P2 (sFor (iOfs (aCons (eC (.int 16)) aNil) kRng1) (gNm 5) g__law_draws_6 (EnvD xs last a b c) [.lst (ds.map .int), .lst (ys.map .int)]) := by
    refine sFor_rng1 (j := 16) (G1 := [.lst (ds.map .int), .lst (ys.map .int)]) I2 P2 (by simp) (by decide) (by decide) ⟨last, a, b, c, ds, rfl, rfl, hs, by omega, by omega, hl0, hl1⟩ ?_ ?_
    · rintro i hi env G ⟨last, a, b, c, ds, rfl, rfl, hs, hl, hl', hl0, hl1⟩
      have hi : i < 16 := hi
      have hm2 : ∀ G', gMul (.int last) (.int last) G' = .ok (.int (last * last)) G' := fun G' => gMul_ii (mulOk_small (small40 ⟨hl0, hl1⟩))
      have hm1 : ∀ G', gMul (.int 69621) (.int (i : Nat)) G' = .ok (.int (69621 * (i : Nat))) G' := fun G' => gMul_ii (mulOk_small (by decide))
      have hm3 : ∀ x G', gMod (.int x) (.int 1000000007) G' = .ok (.int (x % 1000000007)) G' := fun x G' => gMod_ii (by decide)
      have bl : bLen [.ref 0] [.lst (ds.map .int), .lst (ys.map .int)] = .ok (.int ds.length) [.lst (ds.map .int), .lst (ys.map .int)] := by
        rw [bLen_seq (xs := ds.map .int) rfl]; simp
      obtain ⟨t, ht⟩ : ∃ t, t = (last * last + 69621 * (i : Nat) + (ds.length : Nat) + 31) % 1000000007 := ⟨_, rfl⟩
      have hts := mod_small (i := last * last + 69621 * (i : Nat) + (ds.length : Nat) + 31) (j := 1000000007) (by decide) (by decide)
      rw [← ht] at hts
      have a1 : mAppend (.ref 0) [.int t] [.lst (ds.map .int), .lst (ys.map .int)] = .ok .non [.lst (ds.map .int ++ [.int t]), .lst (ys.map .int)] := mAppend_ref rfl (by simp; omega)
      have l1 : isLst (.ref 0) [.lst (ds.map .int), .lst (ys.map .int)] = true := rfl
      have e : g__law_draws_6 (EnvD xs last a b (some (.int (i : Nat)))) [.lst (ds.map .int), .lst (ys.map .int)] = .nx (EnvD xs t a b (some (.int (i : Nat)))) [.lst (ds.map .int ++ [.int t]), .lst (ys.map .int)] := by
        simp [g__law_draws_6, EnvD, eMeth_, hm1, hm2, hm3, bl, ← ht, a1, l1]
      show after (g__law_draws_6 (EnvD xs last a b (some (.int (i : Nat)))) [.lst (ds.map .int), .lst (ys.map .int)]) _ P2
      rw [e]
      exact ⟨t, a, b, _, ds ++ [t], rfl, by simp, hs.add hts, by simp; omega, by simp; omega, hts.1, hts.2⟩
    · rintro env G ⟨last, a, b, c, ds, rfl, rfl, hs, hl, hl', hl0, hl1⟩
      have hl : 16 ≤ ds.length := hl
      have hl' : ds.length ≤ 60 * 63 + 16 := hl'
      exact ⟨last, a, b, c, ds, rfl, by omega, by omega, hs⟩
  obtain ⟨last2, a2, b2, c2, ds2, e2, hd2⟩ := L2
  refine ⟨[.lst (ds2.map .int), .lst (ys.map .int)], ?_, by simp, ds2, hd2, rfl⟩
  refine (congrArg fin (?_ : g__law_draws [some (.rl xs), none, none, none, none, none] [] = .ret (.ref 0) [.lst (ds2.map .int), .lst (ys.map .int)])).trans rfl
  unfold g__law_draws
  rw [seq_nx (G' := [.lst []]) (e' := [some (.rl xs), some (.ref 0), none, none, none, none]) (by simp), seq_nx (e' := EnvD xs 97 none none none) (G' := [.lst []]) (by simp [EnvD]), seq_nx e1, seq_nx e2]
  simp [EnvD]
end K02

set_option Elab.async false
set_option linter.all false
set_option maxRecDepth 100000
set_option maxHeartbeats 4000000
set_option autoImplicit false
namespace K02
open PySem PySem.Spec L2 FL

/-- older lists stay (but the draws) -/
def Ext (G G' : Gp) : Prop := G.length ≤ G'.length ∧ ∀ l, 0 < l → l < G.length → G'[l]? = G[l]?
theorem Ext.refl (G : Gp) : Ext G G := ⟨Nat.le_refl _, fun _ _ _ => rfl⟩
theorem Ext.trans {G G1 G2 : Gp} (a : Ext G G1) (b : Ext G1 G2) : Ext G G2 := ⟨Nat.le_trans a.1 b.1, fun l h1 h2 => (b.2 l h1 (Nat.lt_of_lt_of_le h2 a.1)).trans (a.2 l h1 h2)⟩
theorem Oth.ext {G G' : Gp} (h : Oth G G') : Ext G G' := ⟨Nat.le_of_eq h.1.symm, fun l h1 _ => h.2 l (by omega)⟩
theorem Ext.at_ {G G' : Gp} (h : Ext G G') {l : Nat} {o : OU} (hp : 0 < l) (e : G[l]? = some o) : G'[l]? = some o := (h.2 l hp (List.getElem?_eq_some_iff.mp e).1).trans e
theorem ext_push (G : Gp) (o : OU) : Ext G (G ++ [o]) := ⟨by simp, fun l _ h => List.getElem?_append_left h⟩
theorem dr_push {G : Gp} (h : Dr G) (o : OU) : Dr (G ++ [o]) := by
  obtain ⟨ds, h1, h2⟩ := h
  exact ⟨ds, h1, by rw [List.getElem?_append_left (List.getElem?_eq_some_iff.mp h2).1]; exact h2⟩
theorem dr_set {G : Gp} (h : Dr G) {l : Nat} (hl : l ≠ 0) (o : OU) : Dr (G.set l o) := by
  obtain ⟨ds, h1, h2⟩ := h
  exact ⟨ds, h1, by rw [List.getElem?_set_ne hl]; exact h2⟩
theorem Dr.len {G : Gp} (h : Dr G) : 0 < G.length := by
  obtain ⟨ds, _, h2⟩ := h
  exact (List.getElem?_eq_some_iff.mp h2).1
theorem ext_set {G G' : Gp} (h : Ext G G') {l : Nat} (hl : G.length ≤ l) (o : OU) : Ext G (G'.set l o) := ⟨by simp [h.1], fun m h1 h2 => by rw [List.getElem?_set_ne (by omega)]; exact h.2 m h1 h2⟩
theorem push_at (G : Gp) (o : OU) : (G ++ [o])[G.length]? = some o := by simp

theorem comp_rng {own : List Nat} {fa : Ev → Gp → R (List U)} {k : Nat} {fe : Ev → Gp → R U} {env : Ev} {G G1 : Gp} {n : Nat} (Q : Int → Prop) (hf : fa env G = .ok [.int n] G1) (hn : n < 1000000) (hD : Dr G1)
    (step : ∀ (i : Nat) (G2 : Gp), i < n → Dr G2 → Ext G1 G2 → ∃ v G3, fe ((wipeE env own).set k (some (.int (i : Nat)))) G2 = .ok (.int v) G3 ∧ Q v ∧ Oth G2 G3 ∧ Dr G3) :
    ∃ (vs : List Int) (G' : Gp), eComp own (iOfs fa kRng1) (gNm k) tYesB fe env G = .ok (.ref G1.length) G' ∧ G'[G1.length]? = some (.lst (vs.map .int)) ∧ vs.length = n ∧ (∀ v ∈ vs, Q v) ∧ Dr G' ∧ Ext G1 G' := by
  let I : Nat → List U → Gp → Prop := fun i acc G => ∃ vs : List Int, acc = vs.map .int ∧ vs.length = i ∧ (∀ v ∈ vs, Q v) ∧ Dr G ∧ G.length = G1.length + 1 ∧ Ext G1 G
  obtain ⟨src, e, g⟩ := gives_rng1 (I := fun _ _ _ => True) (j := (n : Int)) (by omega) (by omega) (G := G1)
  have hlen : (rng 0 (n : Int).toNat).length = n := by simp
  refine eComp_post (src := src) (xs := rng 0 (n : Int).toNat) (G1 := G1) I (fun r => ∃ (vs : List Int) (G' : Gp), r = .ok (.ref G1.length) G' ∧ G'[G1.length]? = some (.lst (vs.map .int)) ∧ vs.length = n ∧ (∀ v ∈ vs, Q v) ∧ Dr G' ∧ Ext G1 G') (iOfs_ok hf e) ⟨g.1, fun i acc G h _ => g.2 i [] G h trivial⟩ (by rw [hlen]; omega)
    ⟨[], rfl, rfl, fun v h => by simp at h, dr_push hD _, by simp, ext_push _ _⟩ ?_ ?_
  · rintro i hi acc G2 ⟨vs, rfl, h1, h2, h3, h4, h5⟩ hl
    rw [hlen] at hi
    obtain ⟨v, G3, e3, hQ, ho, hd⟩ := step i G2 hi h3 h5
    rw [rng_get]
    refine ⟨_, G2, true, G2, rfl, rfl, fun _ => ⟨.int v, G3, ?_, ?_, vs ++ [v], by simp, by simp [h1], ?_, dr_set hd (by have := hD.len; omega) _, by simp [ho.1, h4], ?_⟩, fun h => nomatch h⟩
    · have z : (0 : Int) + ((i : Nat) : Int) = ((i : Nat) : Int) := Int.zero_add _
      rw [z]
      exact e3
    · rw [ho.2 _ (by have := hD.len; omega)]; exact hl
    · intro x hx
      rcases List.mem_append.mp hx with hx | hx
      · exact h2 x hx
      · rw [List.mem_singleton] at hx; rw [hx]; exact hQ
    · refine ⟨by simp [ho.1, h4], fun l hl1 hl2 => ?_⟩
      rw [List.getElem?_set_ne (by omega), ho.2 l (by omega)]
      exact h5.2 l hl1 hl2
  · rintro acc G2 _ ⟨vs, rfl, h1, h2, h3, h4, h5⟩ hl
    exact ⟨vs, G2, rfl, hl, by rw [h1, hlen], h2, h3, h5⟩

/-- all lists stay -/
def Ex0 (G G' : Gp) : Prop := G.length ≤ G'.length ∧ ∀ l, l < G.length → G'[l]? = G[l]?
theorem Ex0.refl (G : Gp) : Ex0 G G := ⟨Nat.le_refl _, fun _ _ => rfl⟩
theorem Ex0.trans {G G1 G2 : Gp} (a : Ex0 G G1) (b : Ex0 G1 G2) : Ex0 G G2 := ⟨Nat.le_trans a.1 b.1, fun l h => (b.2 l (Nat.lt_of_lt_of_le h a.1)).trans (a.2 l h)⟩
theorem ex0_push (G : Gp) (o : OU) : Ex0 G (G ++ [o]) := ⟨by simp, fun l h => List.getElem?_append_left h⟩
theorem ex0_set {G G' : Gp} (h : Ex0 G G') {l : Nat} (hl : G.length ≤ l) (o : OU) : Ex0 G (G'.set l o) := ⟨by simp [h.1], fun m h1 => by rw [List.getElem?_set_ne (by omega)]; exact h.2 m h1⟩
theorem Ex0.at_ {G G' : Gp} (h : Ex0 G G') {l : Nat} {o : OU} (e : G[l]? = some o) : G'[l]? = some o := (h.2 l (List.getElem?_eq_some_iff.mp e).1).trans e
theorem Ex0.ext {G G' : Gp} (h : Ex0 G G') : Ext G G' := ⟨h.1, fun l _ h2 => h.2 l h2⟩
theorem Ex0.dr {G G' : Gp} (h : Ex0 G G') (d : Dr G) : Dr G' := by
  obtain ⟨ds, h1, h2⟩ := d
  exact ⟨ds, h1, h.at_ h2⟩
theorem set_same {G : Gp} {l : Nat} {x : OU} (h : G[l]? = some x) : G.set l x = G := by
  apply List.ext_getElem?
  intro i
  by_cases hi : i = l
  · subst hi; rw [set_get h, h]
  · rw [List.getElem?_set_ne (Ne.symm hi)]
theorem gAdd_tup {a b : List U} {G : Gp} (h : a.length + b.length ≤ 16777216) : gAdd (.tup a) (.tup b) G = .ok (.tup (a ++ b)) G := if_pos h
theorem seqU_of {G : Gp} {l : Nat} {xs : List U} (h : G[l]? = some (.lst xs)) : seqU G (.ref l) = some xs := by rw [seqU_ref, h]
/-- a source that gives these items while the older lists stay -/
def SrcX (src : Src) (xs : List U) (G1 : Gp) : Prop := xs.length < src.fuel ∧ ∀ i G2, i ≤ xs.length → Ex0 G1 G2 → src.at_ i G2 = some xs[i]?
theorem srcx_tup {xs : List U} {G : Gp} : kSeq (.tup xs) G = some (.items xs) ∧ SrcX (.items xs) xs G := ⟨rfl, Nat.lt_succ_self _, fun _ _ _ _ => rfl⟩
theorem srcx_ref {l : Nat} {xs : List U} {G : Gp} (h : G[l]? = some (.lst xs)) : ∃ src, kSeq (.ref l) G = some src ∧ SrcX src xs G := by
  obtain ⟨src, e, g⟩ := gives_ref (I := fun _ _ G' => G'[l]? = some (.lst xs)) h (fun _ _ _ h => h)
  exact ⟨src, e, g.1, fun i G2 hi hx => g.2 i [] G2 hi (hx.at_ h)⟩
theorem srcx_rng {n : Nat} {G : Gp} (hn : n < 1000000) : ∃ src, kRng1 [.int (n : Nat)] G = some src ∧ SrcX src ((List.range n).map fun i => U.int (i : Nat)) G := by
  obtain ⟨src, e, g⟩ := gives_rng1 (I := fun _ _ _ => True) (j := (n : Int)) (by omega) (by omega) (G := G)
  have e2 : rng 0 (n : Int).toNat = (List.range n).map fun i => U.int (i : Nat) := by unfold rng; simp
  rw [e2] at g
  exact ⟨src, e, g.1, fun i G2 hi _ => g.2 i [] G2 hi trivial⟩
/-- a comprehension that makes no lists -/
theorem comp_pure {α : Type} {own : List Nat} {fi : Ev → Gp → R Src} {gf : U → Ev → Gp → R Ev} {ft : Ev → Gp → R Bool} {fe : Ev → Gp → R U} {env : Ev} {G G1 : Gp} {src : Src} {ys : List α} {g : α → U} (p : α → Bool) (f : α → U) (hf : fi env G = .ok src G1) (hs : SrcX src (ys.map g) G1) (hlen : ys.length < 16777216)
    (step : ∀ (i : Nat) (hi : i < ys.length) (G2 : Gp), Ex0 G1 G2 → ∃ env1, gf (g ys[i]) (wipeE env own) G2 = .ok env1 G2 ∧ ft env1 G2 = .ok (p ys[i]) G2 ∧ (p ys[i] = true → fe env1 G2 = .ok (f ys[i]) G2)) :
    ∃ G', eComp own fi gf ft fe env G = .ok (.ref G1.length) G' ∧ Ex0 G1 G' ∧ G'[G1.length]? = some (.lst ((ys.filter p).map f)) := by
  have hl : (ys.map g).length = ys.length := List.length_map ..
  refine eComp_post (src := src) (xs := ys.map g) (G1 := G1) (fun i acc G => acc = ((ys.take i).filter p).map f ∧ Ex0 G1 G) (fun r => ∃ G', r = .ok (.ref G1.length) G' ∧ Ex0 G1 G' ∧ G'[G1.length]? = some (.lst ((ys.filter p).map f))) hf ⟨hs.1, fun i acc G h hI => hs.2 i G h hI.2⟩ (by rw [hl]; exact hlen) ⟨by simp, ex0_push _ _⟩ ?_ ?_
  · intro i hi acc G2 hI hat
    obtain ⟨ha, hx⟩ := hI
    subst ha
    rw [hl] at hi
    obtain ⟨env1, s1, s2, s3⟩ := step i hi G2 hx
    rw [List.getElem_map]
    have tk : ys.take (i + 1) = ys.take i ++ [ys[i]] := List.take_succ_eq_append_getElem hi
    refine ⟨env1, G2, p ys[i], G2, s1, s2, fun hb => ⟨f ys[i], G2, s3 hb, hat, ?_, ex0_set hx (Nat.le_refl _) _⟩, fun hb => ⟨hat, ?_, hx⟩⟩
    · rw [tk, List.filter_append]; simp [hb]
    · rw [tk, List.filter_append]; simp [hb]
  · intro acc G2 _ hI hat
    obtain ⟨ha, hx⟩ := hI
    subst ha
    rw [hl, List.take_length] at hat
    exact ⟨G2, rfl, hx, hat⟩
/-- a comprehension of which each turn makes one new list -/
theorem comp_fresh {α : Type} {own : List Nat} {fi : Ev → Gp → R Src} {gf : U → Ev → Gp → R Ev} {fe : Ev → Gp → R U} {env : Ev} {G G1 : Gp} {src : Src} {ys : List α} {g : α → U} (f : α → List U) (hf : fi env G = .ok src G1) (hs : SrcX src (ys.map g) G1) (hlen : ys.length < 16777216)
    (step : ∀ (i : Nat) (hi : i < ys.length) (G2 : Gp), Ex0 G1 G2 → ∃ env1, gf (g ys[i]) (wipeE env own) G2 = .ok env1 G2 ∧ fe env1 G2 = .ok (.ref G2.length) (G2 ++ [.lst (f ys[i])])) :
    ∃ G', eComp own fi gf tYesB fe env G = .ok (.ref G1.length) G' ∧ Ex0 G1 G' ∧ G'[G1.length]? = some (.lst ((List.range ys.length).map fun s => U.ref (G1.length + 1 + s))) ∧ ∀ (i : Nat) (hi : i < ys.length), G'[G1.length + 1 + i]? = some (.lst (f ys[i])) := by
  have hl : (ys.map g).length = ys.length := List.length_map ..
  refine eComp_post (src := src) (xs := ys.map g) (G1 := G1) (fun i acc G => acc = ((List.range i).map fun s => U.ref (G1.length + 1 + s)) ∧ Ex0 G1 G ∧ G.length = G1.length + 1 + i ∧ ∀ (j : Nat) (hj : j < ys.length), j < i → G[G1.length + 1 + j]? = some (.lst (f ys[j])))
    (fun r => ∃ G', r = .ok (.ref G1.length) G' ∧ Ex0 G1 G' ∧ G'[G1.length]? = some (.lst ((List.range ys.length).map fun s => U.ref (G1.length + 1 + s))) ∧ ∀ (i : Nat) (hi : i < ys.length), G'[G1.length + 1 + i]? = some (.lst (f ys[i]))) hf ⟨hs.1, fun i acc G h hI => hs.2 i G h hI.2.1⟩ (by rw [hl]; exact hlen) ⟨rfl, ex0_push _ _, by simp, fun j hj h => absurd h (Nat.not_lt_zero _)⟩ ?_ ?_
  · intro i hi acc G2 hI hat
    obtain ⟨ha, hx, hlen2, hrow⟩ := hI
    subst ha
    rw [hl] at hi
    obtain ⟨env1, s1, s2⟩ := step i hi G2 hx
    rw [List.getElem_map]
    refine ⟨env1, G2, true, G2, s1, rfl, fun _ => ⟨_, _, s2, ?_, ?_, ex0_set (hx.trans (ex0_push _ _)) (Nat.le_refl _) _, by simp [hlen2]; omega, fun j hj hji => ?_⟩, fun h => nomatch h⟩
    · rw [List.getElem?_append_left (by omega)]; exact hat
    · rw [List.range_succ, List.map_append, hlen2]; rfl
    · rw [List.getElem?_set_ne (by omega)]
      by_cases c : j = i
      · subst c
        rw [← hlen2]; exact push_at _ _
      · rw [List.getElem?_append_left (by omega)]
        exact hrow j hj (by omega)
  · intro acc G2 _ hI hat
    obtain ⟨ha, hx, hlen2, hrow⟩ := hI
    subst ha
    rw [hl] at hat hrow
    exact ⟨G2, rfl, hx, hat, fun i hi => hrow i hi hi⟩
end K02

set_option Elab.async false
set_option linter.all false
set_option maxRecDepth 100000
set_option maxHeartbeats 4000000
set_option autoImplicit false
namespace K02
open PySem PySem.Spec L2 FL

def OkP (ps : List Int) : Prop := 1 ≤ ps.length ∧ ps.length ≤ 14 ∧ ∀ p ∈ ps, 1 ≤ p ∧ p ≤ 1000
theorem prices_spec {G : Gp} (hD : Dr G) : ∃ (l : Nat) (G' : Gp) (ps : List Int), F__law_prices [.ref 0] G = .ok (.ref l) G' ∧ G'[l]? = some (.lst (ps.map .int)) ∧ 0 < l ∧ OkP ps ∧ Dr G' ∧ Ext G G' := by
  rw [run__law_prices]
  obtain ⟨r1, G1, e1, a1, b1, o1, d1⟩ := next_spec (b := 14) hD (by decide)
  obtain ⟨kind, G2, e2, a2, b2, o2, d2⟩ := next_spec (b := 6) d1 (by decide)
  obtain ⟨n, hn⟩ : ∃ n : Nat, 1 + r1 = (n : Int) := ⟨(1 + r1).toNat, by omega⟩
  have x2 : Ext G G2 := o1.ext.trans o2.ext
  by_cases k0 : kind = 0
  · subst k0
    obtain ⟨r3, G3, e3, a3, b3, o3, d3⟩ := next_spec (b := 1000) d2 (by decide)
    obtain ⟨vs, G4, e4, at4, l4, q4, d4, x4⟩ := comp_rng (own := [6]) (fa := aCons (eVar 1) aNil) (k := 6) (fe := eVar 3) (env := [some (.ref 0), some (.int n), some (.int 0), some (.int (1 + r3)), none, none, none]) (G := G3) (G1 := G3) (n := n) (fun v => v = 1 + r3) (by simp) (by omega) d3 (fun i G2 hi hd _ => ⟨1 + r3, G2, by simp [wipeE], rfl, ⟨rfl, fun _ _ => rfl⟩, hd⟩)
    refine ⟨G3.length, G4, vs, ?_, at4, d3.len, ⟨by omega, by omega, fun p hp => by have := q4 p hp; omega⟩, d4, x2.trans (o3.ext.trans x4)⟩
    have ec : g__law_prices_1 [some (.ref 0), some (.int n), some (.int 0), none, none, none, none] G2 = .ret (.ref G3.length) G4 := by
      unfold g__law_prices_1
      rw [seq_nx (e' := [some (.ref 0), some (.int n), some (.int 0), some (.int (1 + r3)), none, none, none]) (G' := G3) (by simp [e3])]
      simp [e4]
    simp [g__law_prices, e1, hn, e2, ec]
  · by_cases k1 : kind = 1
    · subst k1
      obtain ⟨vs, G4, e4, at4, l4, q4, d4, x4⟩ := comp_rng (own := [6]) (fa := aCons (eVar 1) aNil) (k := 6) (fe := eC (.int 1)) (env := [some (.ref 0), some (.int n), some (.int 1), none, none, none, none]) (G := G2) (G1 := G2) (n := n) (fun v => v = 1) (by simp) (by omega) d2 (fun i G2 hi hd _ => ⟨1, G2, by simp, rfl, ⟨rfl, fun _ _ => rfl⟩, hd⟩)
      obtain ⟨r3, G5, e5, a5, b5, o5, d5⟩ := next_spec (b := 1000) d4 (by decide)
      obtain ⟨r6, G6, e6, a6, b6, o6, d6⟩ := next_spec (b := (n : Int)) d5 (by omega)
      have hp := d2.len
      have at6 : G6[G2.length]? = some (.lst (vs.map .int)) := by rw [o6.2 _ (by omega), o5.2 _ (by omega)]; exact at4
      have su := setU_ref (G := G6) (v := .int (1 + r3)) at6 a6 (by simp [l4]; omega)
      refine ⟨G2.length, G6.set G2.length (.lst ((vs.set r6.toNat (1 + r3)).map .int)), vs.set r6.toNat (1 + r3), ?_, set_get at6, hp, ⟨by simp; omega, by simp; omega, fun p hp => ?_⟩, dr_set d6 (by omega) _, x2.trans (ext_set (x4.trans (o5.ext.trans o6.ext)) (Nat.le_refl _) _)⟩
      · have ec : g__law_prices_2 [some (.ref 0), some (.int n), some (.int 1), none, none, none, none] G2 = .ret (.ref G2.length) (G6.set G2.length (.lst ((vs.set r6.toNat (1 + r3)).map .int))) := by
          unfold g__law_prices_2
          rw [seq_nx (e' := [some (.ref 0), some (.int n), some (.int 1), none, some (.ref G2.length), none, none]) (G' := G4) (by simp [e4])]
          simp [e5, e6, su, List.map_set]
        simp [g__law_prices, e1, hn, e2, ec]
      · rcases List.mem_or_eq_of_mem_set hp with hp | hp
        · have := q4 p hp; omega
        · omega
    · obtain ⟨bnd, ib, hb0, hb1⟩ : ∃ bnd : Int, gIdx (.tup [.int 3, .int 3, .int 30, .int 1000]) (.int (kind - 2)) G2 = .ok (.int bnd) G2 ∧ 0 < bnd ∧ bnd ≤ 1000 := by
        have : kind = 2 ∨ kind = 3 ∨ kind = 4 ∨ kind = 5 := by omega
        rcases this with rfl | rfl | rfl | rfl
        · exact ⟨3, rfl, by decide, by decide⟩
        · exact ⟨3, rfl, by decide, by decide⟩
        · exact ⟨30, rfl, by decide, by decide⟩
        · exact ⟨1000, rfl, by decide, by decide⟩
      obtain ⟨vs, G4, e4, at4, l4, q4, d4, x4⟩ := comp_rng (own := [6]) (fa := aCons (eVar 1) aNil) (k := 6) (fe := eBin gAdd (eC (.int 1)) (eCall F__law_next (aCons (eVar 0) (aCons (eVar 5) aNil)))) (env := [some (.ref 0), some (.int n), some (.int kind), none, none, some (.int bnd), none]) (G := G2) (G1 := G2) (n := n) (fun v => 1 ≤ v ∧ v ≤ 1000) (by simp) (by omega) d2 (fun i G2 hi hd _ => by
        obtain ⟨r, G3, e3, a3, b3, o3, d3⟩ := next_spec (b := bnd) hd hb0
        exact ⟨1 + r, G3, by simp [wipeE, e3], by omega, o3, d3⟩)
      refine ⟨G2.length, G4, vs, ?_, at4, d2.len, ⟨by omega, by omega, q4⟩, d4, x2.trans x4⟩
      simp [g__law_prices, e1, hn, e2, k0, k1, ib, e4]
end K02

set_option Elab.async false
set_option linter.all false
set_option maxRecDepth 100000
set_option maxHeartbeats 4000000
set_option autoImplicit false
namespace K02
open PySem PySem.Spec L2 FL

/-! ### the checks -/
def noRef (v : U) : Prop := ∀ l, v ≠ .ref l
def tyU : U → String
  | .non => "NoneType" | .bl _ => "bool" | .int _ => "int" | .str _ => "str" | .tup _ => "tuple" | .rl _ => "list" | .ref _ => "list"
theorem tyN_of {G : Gp} {v : U} (h : noRef v) : tyN G v = some (tyU v) := by
  cases v <;> first | rfl | exact absurd rfl (h _)
def isI : U → Bool
  | .int _ => true
  | _ => false
def isIB : U → Bool
  | .int _ => true
  | .bl _ => true
  | _ => false
def isB : U → Bool
  | .bl _ => true
  | _ => false
theorem lkInt (v : U) : tbInt.lookup (tyU v) = some (isIB v) := by cases v <;> rfl
theorem lkBool (v : U) : tbBool.lookup (tyU v) = some (isB v) := by cases v <;> rfl
theorem is_integer_spec {v : U} (h : noRef v) (G : Gp) : F_is_integer [v] G = .ok (.bl (isI v)) G := by
  rw [run_is_integer]
  simp only [g_is_integer, sRet_, eAnd_, eNot_, eIs_, eVar_, List.getElem?_cons_zero, r_bind_ok, isRes_of (tyN_of h) (lkInt v), isRes_of (tyN_of h) (lkBool v), asB_ok]
  cases v <;> simp [isI, isIB, isB]
def inR (v : U) (lo up : Int) : Bool := match v with
  | .int i => decide (lo ≤ i) && decide (i ≤ up)
  | _ => false
theorem is_from_to_spec {v : U} (h : noRef v) (lo up : Int) (G : Gp) : F_is_from_to [v, .int lo, .int up] G = .ok (.bl (inR v lo up)) G := by
  rw [run_is_from_to]
  simp only [g_is_from_to, sRet_, eAnd_, eCall_, aCons_, aNil_, eVar_, List.getElem?_cons_zero, r_bind_ok, is_integer_spec h, asB_ok]
  cases v with
  | int i =>
    by_cases h1 : lo ≤ i
    · simp [isI, inR, h1]
    · simp [isI, inR, h1]
  | _ => simp [isI, inR]
theorem check_number_ok {v : U} (h : noRef v) {lo up : Int} (G : Gp) (hb : inR v lo up = true) : F_check_number [v, .int lo, .int up] G = .ok .non G := by
  rw [run_check_number]
  simp [g_check_number, is_from_to_spec h, hb]
theorem check_number_bad {v : U} (h : noRef v) {lo up : Int} (G : Gp) (hb : inR v lo up = false) : F_check_number [v, .int lo, .int up] G = .exc "InvalidNumber" [("number", v)] G := by
  rw [run_check_number]
  simp [g_check_number, is_from_to_spec h, hb, sRaise]
/-- the row's items, if it is a row -/
def isSeq (u : U) (xs : List U) (G : Gp) : Prop := u = .tup xs ∨ ∃ l, u = .ref l ∧ G[l]? = some (.lst xs)
theorem isSeq.seq {u : U} {xs : List U} {G : Gp} (h : isSeq u xs G) : seqU G u = some xs := by
  rcases h with rfl | ⟨l, rfl, e⟩
  · rfl
  · simp [e]
theorem isSeq.is {u : U} {xs : List U} {G : Gp} (h : isSeq u xs G) : isRes tbSeq u G = .ok (.bl true) G := by
  rcases h with rfl | ⟨l, rfl, e⟩
  · rfl
  · exact isRes_of (n := "list") (by simp only [tyN, e]) rfl
theorem enum_for {fa : Ev → Gp → R (List U)} {gf : U → Ev → Gp → R Ev} {body : Ev → Gp → SR} {env : Ev} {G : Gp} {u : U} {xs : List U} (I : Nat → Ev → Gp → Prop) (P : SR → Prop) (hu : isSeq u xs G) (hf : fa env G = .ok [u] G) (hI : ∀ i e G', I i e G' → G' = G) (h0 : I 0 env G)
    (step : ∀ (i : Nat) (hi : i < xs.length) (env : Ev), I i env G → after ((gf (.tup [.int (i : Nat), xs[i]]) env G).andThen env fun env1 G1 => body env1 G1) (I (i + 1)) P)
    (fin : ∀ env, I xs.length env G → P (.nx env G)) : P (sFor (iOfs fa kEnum) gf body env G) := by
  have hlen : (xs.mapIdx fun i x => U.tup [.int (i : Nat), x]).length = xs.length := by simp
  have key : ∃ src, kEnum [u] G = some src ∧ Gives src (xs.mapIdx fun i x => U.tup [.int (i : Nat), x]) I := by
    rcases hu with rfl | ⟨l, rfl, e⟩
    · exact ⟨_, rfl, gives_items⟩
    · refine ⟨.live (xs.length + 1) fun i G => match G[l]? with
        | some (.lst ys) => some (ys[i]?.map fun x => .tup [.int (i : Nat), x])
        | _ => none, by unfold kEnum; (simp only [e] <;> rfl), by simp [Src.fuel], fun i env G' hi h2 => ?_⟩
      have := hI i env G' h2
      subst this
      show (match G'[l]? with
        | some (.lst ys) => some (ys[i]?.map fun x => U.tup [.int (i : Nat), x])
        | _ => none) = _
      rw [e]
      simp
  obtain ⟨src, e, g⟩ := key
  refine sFor_post (src := src) (G1 := G) I P (iOfs_ok hf e) g h0 (fun i hi env G' h2 => ?_) (fun env G' h2 => ?_)
  · have := hI i env G' h2
    subst this
    rw [List.getElem_mapIdx]
    exact step i (by simpa using hi) env h2
  · have := hI _ env G' h2
    subst this
    exact fin env (by simpa using h2)
theorem checked_row_ok {u : U} {xs : List U} {G : Gp} {m : Int} {lo up : Int} (hu : isSeq u xs G) (h1 : 1 ≤ xs.length) (h2 : (xs.length : Int) ≤ m) (h : ∀ x ∈ xs, noRef x ∧ inR x lo up = true) : F_checked_row [u, .int m, .int lo, .int up] G = .ok (.tup xs) G := by
  rw [run_checked_row]
  have hl : bLen [u] G = .ok (.int xs.length) G := bLen_seq hu.seq
  have ht : bTuple [u] G = .ok (.tup xs) G := bTuple_seq hu.seq
  have his := hu.is
  have L : ∃ a b, sFor (iOfs (aCons (eVar 0) aNil) kEnum) (FL.gTup (FL.gCons (gNm 4) (FL.gCons (gNm 5) FL.gNil)) 2) g_checked_row_1 [some u, some (.int m), some (.int lo), some (.int up), none, none] G = .nx [some u, some (.int m), some (.int lo), some (.int up), a, b] G := by
    refine enum_for (fun i e G' => G' = G ∧ ∃ a b, e = [some u, some (.int m), some (.int lo), some (.int up), a, b]) (fun r => ∃ a b, r = .nx [some u, some (.int m), some (.int lo), some (.int up), a, b] G) hu (by simp) (fun i e G' h => h.1) ⟨rfl, none, none, rfl⟩ ?_ ?_
    · rintro i hi env ⟨_, a, b, rfl⟩
      obtain ⟨hx, hr⟩ := h _ (List.getElem_mem hi)
      have e : (FL.gTup (FL.gCons (gNm 4) (FL.gCons (gNm 5) FL.gNil)) 2 (.tup [.int (i : Nat), xs[i]]) [some u, some (.int m), some (.int lo), some (.int up), a, b] G).andThen [some u, some (.int m), some (.int lo), some (.int up), a, b] (fun env1 G1 => g_checked_row_1 env1 G1) = .nx [some u, some (.int m), some (.int lo), some (.int up), some (.int (i : Nat)), some xs[i]] G := by
        simp [g_checked_row_1, is_from_to_spec hx, hr]
      rw [e]
      exact ⟨rfl, _, _, rfl⟩
    · rintro env ⟨_, a, b, rfl⟩
      exact ⟨a, b, rfl⟩
  obtain ⟨a, b, L⟩ := L
  have h1' : (1 : Int) ≤ (xs.length : Int) := by omega
  unfold g_checked_row
  rw [seq_nx (e' := [some u, some (.int m), some (.int lo), some (.int up), none, none]) (G' := G) (by simp [his, hl, h1', h2]), seq_nx L]
  simp [ht]
/-- the first place that is wrong -/
theorem checked_row_place {u : U} {xs : List U} {G : Gp} {m : Int} {lo up : Int} (hu : isSeq u xs G) (h1 : 1 ≤ xs.length) (h2 : (xs.length : Int) ≤ m) {k : Nat} (hk : k < xs.length) (hkr : noRef xs[k]) (hkb : inR xs[k] lo up = false) (h : ∀ (j : Nat) (hj : j < xs.length), j < k → noRef xs[j] ∧ inR xs[j] lo up = true) :
    F_checked_row [u, .int m, .int lo, .int up] G = .exc "InvalidRow" [("place", .int (k : Nat))] G := by
  rw [run_checked_row]
  have hl : bLen [u] G = .ok (.int xs.length) G := bLen_seq hu.seq
  have his := hu.is
  have L : ∃ e', sFor (iOfs (aCons (eVar 0) aNil) kEnum) (FL.gTup (FL.gCons (gNm 4) (FL.gCons (gNm 5) FL.gNil)) 2) g_checked_row_1 [some u, some (.int m), some (.int lo), some (.int up), none, none] G = .exc "InvalidRow" [("place", .int (k : Nat))] e' G := by
    refine enum_for (fun i e G' => G' = G ∧ i ≤ k ∧ ∃ a b, e = [some u, some (.int m), some (.int lo), some (.int up), a, b]) (fun r => ∃ e', r = .exc "InvalidRow" [("place", .int (k : Nat))] e' G) hu (by simp) (fun i e G' h => h.1) ⟨rfl, Nat.zero_le _, none, none, rfl⟩ ?_ ?_
    · rintro i hi env ⟨_, hik, a, b, rfl⟩
      by_cases hc : i = k
      · subst hc
        have e : (FL.gTup (FL.gCons (gNm 4) (FL.gCons (gNm 5) FL.gNil)) 2 (.tup [.int (i : Nat), xs[i]]) [some u, some (.int m), some (.int lo), some (.int up), a, b] G).andThen [some u, some (.int m), some (.int lo), some (.int up), a, b] (fun env1 G1 => g_checked_row_1 env1 G1) = .exc "InvalidRow" [("place", .int (i : Nat))] [some u, some (.int m), some (.int lo), some (.int up), some (.int (i : Nat)), some xs[i]] G := by
          simp [g_checked_row_1, is_from_to_spec hkr, hkb, sRaise]
        rw [e]
        exact ⟨_, rfl⟩
      · obtain ⟨hx, hr⟩ := h i hi (by omega)
        have e : (FL.gTup (FL.gCons (gNm 4) (FL.gCons (gNm 5) FL.gNil)) 2 (.tup [.int (i : Nat), xs[i]]) [some u, some (.int m), some (.int lo), some (.int up), a, b] G).andThen [some u, some (.int m), some (.int lo), some (.int up), a, b] (fun env1 G1 => g_checked_row_1 env1 G1) = .nx [some u, some (.int m), some (.int lo), some (.int up), some (.int (i : Nat)), some xs[i]] G := by
          simp [g_checked_row_1, is_from_to_spec hx, hr]
        rw [e]
        exact ⟨rfl, by omega, _, _, rfl⟩
    · rintro env ⟨_, hik, a, b, rfl⟩
      omega
  obtain ⟨e', L⟩ := L
  have h1' : (1 : Int) ≤ (xs.length : Int) := by omega
  unfold g_checked_row
  rw [seq_nx (e' := [some u, some (.int m), some (.int lo), some (.int up), none, none]) (G' := G) (by simp [his, hl, h1', h2])]
  simp [L]
theorem checked_row_len {u : U} {xs : List U} {G : Gp} {m : Int} {lo up : Int} (hu : isSeq u xs G) (h2 : xs.length = 0 ∨ m < (xs.length : Int)) : F_checked_row [u, .int m, .int lo, .int up] G = .exc "InvalidRow" [("place", .int 0)] G := by
  rw [run_checked_row]
  have hl : bLen [u] G = .ok (.int xs.length) G := bLen_seq hu.seq
  have his := hu.is
  unfold g_checked_row
  by_cases h1 : (1 : Int) ≤ (xs.length : Int)
  · have h3 : ¬ (xs.length : Int) ≤ m := by omega
    simp [his, hl, h1, h3, sRaise]
  · simp [his, hl, h1, sRaise]
def isS : U → Bool
  | .tup _ => true
  | .rl _ => true
  | .ref _ => true
  | _ => false
theorem lkSeq (v : U) : tbSeq.lookup (tyU v) = some (isS v) := by cases v <;> rfl
theorem checked_row_kind {u : U} {G : Gp} {m lo up : Int} (h : noRef u) (hs : isS u = false) : F_checked_row [u, .int m, .int lo, .int up] G = .exc "InvalidRow" [("place", .int 0)] G := by
  rw [run_checked_row]
  unfold g_checked_row
  simp [isRes_of (tyN_of h) (lkSeq u), hs, sRaise]
theorem noRef_int (i : Int) : noRef (.int i) := fun l h => nomatch h
end K02

set_option Elab.async false
set_option linter.all false
set_option maxRecDepth 100000
set_option maxHeartbeats 4000000
set_option autoImplicit false
namespace K02
open PySem PySem.Spec L2 FL

theorem bInts_seq {g : List Int → U} {ne : Bool} {u : U} {ns : List Int} {G : Gp} (h : seqU G u = some (ns.map .int)) (hn : ¬ (ne = true ∧ ns = [])) : bInts g ne [u] G = .ok (g ns) G := by
  unfold bInts
  simp only [h, intsU_map, if_neg hn]
theorem drop_cons {row : List Int} {i : Nat} (hi : i < row.length) : row.drop i = row[i] :: row.drop (i + 1) := List.drop_eq_getElem_cons hi
theorem stages_spec {row : List Int} {top : Int} (hp : PosR row) (G : Gp) : F_stages_needed [.tup (row.map .int), .int top] G = .ok (.int (need row top : Nat)) G := by
  rw [run_stages_needed]
  have L : ∃ (many left : Int) (a : Option U), sFor (iOf (eVar 0) kSeq) (gNm 4) g_stages_needed_2 [some (.tup (row.map .int)), some (.int top), some (.int 0), some (.int 0), none] G = .nx [some (.tup (row.map .int)), some (.int top), some (.int many), some (.int left), a] G ∧ many = (need row top : Nat) := by
    refine sFor_tup (xs := row.map .int) (G1 := G) (fun i e G' => G' = G ∧ ∃ (many : Nat) (left : Int) (a : Option U), e = [some (.tup (row.map .int)), some (.int top), some (.int many), some (.int left), a] ∧ many + gr top left (row.drop i) = need row top ∧ (many = 0 → left = 0)) (fun r => ∃ (many left : Int) (a : Option U), r = .nx [some (.tup (row.map .int)), some (.int top), some (.int many), some (.int left), a] G ∧ many = (need row top : Nat)) (by simp) ⟨rfl, 0, 0, none, rfl, by simp [need], fun _ => rfl⟩ ?_ ?_
    · rintro i hi e G' ⟨rfl, many, left, a, rfl, h1, h2⟩
      have hi' : i < row.length := by simpa using hi
      obtain ⟨c, hc⟩ : ∃ c, c = row[i] := ⟨_, rfl⟩
      have hc1 : 1 ≤ c := by rw [hc]; exact hp _ (List.getElem_mem _)
      have hget : (row.map U.int)[i] = .int c := by rw [List.getElem_map, hc]
      rw [hget]
      rw [drop_cons hi', ← hc, gr_cons] at h1
      show after (g_stages_needed_2 [some (.tup (row.map .int)), some (.int top), some (.int (many : Nat)), some (.int left), some (.int c)] G') _ _
      obtain ⟨mm, hmm⟩ : ∃ mm : Int, mm = (many : Int) := ⟨_, rfl⟩
      rw [← hmm]
      by_cases hcl : c ≤ left
      · have hm0 : mm ≠ 0 := fun z => by
          have := h2 (by omega)
          omega
        rw [if_pos hcl] at h1
        have ee : g_stages_needed_2 [some (.tup (row.map .int)), some (.int top), some (.int mm), some (.int left), some (.int c)] G' = .nx [some (.tup (row.map .int)), some (.int top), some (.int mm), some (.int (left - c)), some (.int c)] G' := by
          have : ¬ left < c := by omega
          simp [g_stages_needed_2, hm0, this]
        rw [ee]
        exact ⟨rfl, many, left - c, some (.int c), by rw [hmm], h1, fun z => absurd (by omega) hm0⟩
      · rw [if_neg hcl] at h1
        have ee : g_stages_needed_2 [some (.tup (row.map .int)), some (.int top), some (.int mm), some (.int left), some (.int c)] G' = .nx [some (.tup (row.map .int)), some (.int top), some (.int (mm + 1)), some (.int (top - c)), some (.int c)] G' := by
          have : left < c := by omega
          by_cases z : mm = 0
          · simp [g_stages_needed_2, g_stages_needed_1, z]
          · simp [g_stages_needed_2, g_stages_needed_1, z, this]
        rw [ee]
        exact ⟨rfl, many + 1, top - c, some (.int c), by rw [hmm]; simp, by omega, fun z => by omega⟩
    · rintro e G' ⟨rfl, many, left, a, rfl, h1, h2⟩
      refine ⟨many, left, a, rfl, ?_⟩
      simp [gr] at h1
      omega
  obtain ⟨many, left, a, L, hm⟩ := L
  unfold g_stages_needed
  rw [seq_nx (e' := [some (.tup (row.map .int)), some (.int top), some (.int 0), none, none]) (G' := G) (by simp), seq_nx (e' := [some (.tup (row.map .int)), some (.int top), some (.int 0), some (.int 0), none]) (G' := G) (by simp), seq_nx L]
  simp [hm]
/-- the least top -/
def IsTop (row : List Int) (s : Nat) (T : Int) : Prop := maxL row ≤ T ∧ need row T ≤ s ∧ ∀ t, maxL row ≤ t → t < T → s < need row t
theorem le_max {row : List Int} (hn : row ≠ []) : ∀ c ∈ row, c ≤ maxL row := (maxL_spec hn).2
theorem posR_le {row : List Int} (hp : PosR row) (hn : row ≠ []) {t : Int} (ht : maxL row ≤ t) : ∀ c ∈ row, 1 ≤ c ∧ c ≤ t := fun c hc => ⟨hp c hc, Int.le_trans (le_max hn c hc) ht⟩
theorem max_le_sum {row : List Int} (hp : PosR row) (hn : row ≠ []) : maxL row ≤ row.sum := by
  have hm := (maxL_spec hn).1
  clear hn
  generalize maxL row = m at hm
  induction row with
  | nil => simp at hm
  | cons d t ih =>
    have ht : PosR t := fun c hc => hp c (List.mem_cons_of_mem _ hc)
    have := sum_nonneg ht
    have := hp d List.mem_cons_self
    rw [List.sum_cons]
    rcases List.mem_cons.mp hm with e | e
    · omega
    · have := ih ht e; omega
theorem need_sum {row : List Int} (hp : PosR row) (hn : row ≠ []) : need row row.sum ≤ 1 := by
  have := need_le (top := row.sum) (ps := [row]) (fun p hp => by rw [List.mem_singleton] at hp; rw [hp]; exact ⟨hn, Int.le_refl _⟩) (by simpa using hp)
  simpa using this
theorem top_spec {row : List Int} {s : Nat} (hp : PosR row) (hn : row ≠ []) (hs : 1 ≤ s) (hb : row.sum < 1000000000) (G : Gp) : ∃ T, F_top_needed [.tup (row.map .int), .int s] G = .ok (.int T) G ∧ IsTop row s T := by
  rw [run_top_needed]
  obtain ⟨si, hsi⟩ : ∃ si : Int, si = (s : Int) := ⟨_, rfl⟩
  rw [← hsi]
  have L : ∃ (T : Int) (x y : Option U), whileN (bVal (eBin gLt (eVar 2) (eVar 3))) g_top_needed_1 bigN [some (.tup (row.map .int)), some (.int si), some (.int (maxL row)), some (.int row.sum), none] G = .nx [some (.tup (row.map .int)), some (.int si), some (.int T), x, y] G ∧ IsTop row s T := by
    refine while_post (I := fun e G' => G' = G ∧ ∃ (low high : Int) (z : Option U), e = [some (.tup (row.map .int)), some (.int si), some (.int low), some (.int high), z] ∧ maxL row ≤ low ∧ low ≤ high ∧ need row high ≤ s ∧ ∀ t, maxL row ≤ t → t < low → s < need row t)
      (m := fun e _ => match e with
        | [_, _, some (.int low), some (.int high), _] => (high - low).toNat
        | _ => 0) (fun r => ∃ (T : Int) (x y : Option U), r = .nx [some (.tup (row.map .int)), some (.int si), some (.int T), x, y] G ∧ IsTop row s T) ?_ bigN _ _ ⟨rfl, _, _, _, rfl, Int.le_refl _, max_le_sum hp hn, Nat.le_trans (need_sum hp hn) hs, fun t h1 h2 => by omega⟩ ?_
    · rintro e G' ⟨rfl, low, high, z, rfl, h1, h2, h3, h4⟩
      by_cases hlt : low < high
      · refine ⟨true, G', by simp [hlt], fun _ => ?_, fun h => nomatch h⟩
        obtain ⟨mid, hmid⟩ : ∃ mid, mid = (low + high) / 2 := ⟨_, rfl⟩
        have hm1 : low ≤ mid := by omega
        have hm2 : mid < high := by omega
        have fd : ∀ G', gFdiv (.int (low + high)) (.int 2) G' = .ok (.int mid) G' := fun G' => by rw [hmid]; exact gFdiv_ii (by decide) (by decide)
        have st := stages_spec (row := row) (top := mid) hp G'
        have hall := posR_le hp hn (Int.le_trans h1 hm1)
        obtain ⟨nd, hnd⟩ : ∃ nd : Int, nd = ((need row mid : Nat) : Int) := ⟨_, rfl⟩
        rw [← hnd] at st
        by_cases hc : need row mid ≤ s
        · have hc' : nd ≤ si := by omega
          have ee : g_top_needed_1 [some (.tup (row.map .int)), some (.int si), some (.int low), some (.int high), z] G' = .nx [some (.tup (row.map .int)), some (.int si), some (.int low), some (.int mid), some (.int mid)] G' := by
            simp [g_top_needed_1, fd, st, hc']
          rw [ee]
          exact ⟨⟨rfl, low, mid, _, rfl, h1, hm1, hc, h4⟩, by show (mid - low).toNat < (high - low).toNat; omega⟩
        · have hc' : ¬ nd ≤ si := by omega
          have ee : g_top_needed_1 [some (.tup (row.map .int)), some (.int si), some (.int low), some (.int high), z] G' = .nx [some (.tup (row.map .int)), some (.int si), some (.int (mid + 1)), some (.int high), some (.int mid)] G' := by
            simp [g_top_needed_1, fd, st, hc']
          rw [ee]
          refine ⟨⟨rfl, mid + 1, high, _, rfl, by omega, by omega, h3, fun t t1 t2 => ?_⟩, by show (high - (mid + 1)).toNat < (high - low).toNat; omega⟩
          have := need_mono (t' := mid) (posR_le hp hn t1) (by omega)
          omega
      · refine ⟨false, G', by simp [hlt], fun h => (nomatch h), fun _ => ?_⟩
        have : low = high := by omega
        subst this
        exact ⟨low, _, _, rfl, h1, h3, h4⟩
    · show (row.sum - maxL row).toNat < bigN
      have : 0 ≤ maxL row := by
        have := hp _ (maxL_spec hn).1
        omega
      unfold bigN
      omega
  obtain ⟨T, x, y, L, hT⟩ := L
  refine ⟨T, ?_, hT⟩
  have hq : seqU G (.tup (row.map .int)) = some (row.map .int) := rfl
  have bm : bMax [.tup (row.map .int)] G = .ok (.int (maxL row)) G := bInts_seq hq (fun h => hn h.2)
  have bs : bSum [.tup (row.map .int)] G = .ok (.int row.sum) G := bInts_seq hq (fun h => nomatch h.1)
  unfold g_top_needed
  rw [seq_nx (e' := [some (.tup (row.map .int)), some (.int si), some (.int (maxL row)), none, none]) (G' := G) (by simp [bm]), seq_nx (e' := [some (.tup (row.map .int)), some (.int si), some (.int (maxL row)), some (.int row.sum), none]) (G' := G) (by simp [bs]), seq_nx L]
  simp
end K02

set_option Elab.async false
set_option linter.all false
set_option maxRecDepth 100000
set_option maxHeartbeats 4000000
set_option autoImplicit false
namespace K02
open PySem PySem.Spec L2 FL

theorem costs_eq {u : U} {G : Gp} {xs : List U} (h : F_checked_row [u, .int 14, .int 1, .int 1000] G = .ok (.tup xs) G) : F_checked_costs [u] G = .ok (.tup xs) G := by
  rw [run_checked_costs]; simp [g_checked_costs, h]
theorem costs_exc {u : U} {G : Gp} {c : Str} {fs : List (Str × U)} (h : F_checked_row [u, .int 14, .int 1, .int 1000] G = .exc c fs G) : F_checked_costs [u] G = .exc c fs G := by
  rw [run_checked_costs]; simp [g_checked_costs, h]
theorem okRow {ps : List Int} (h : OkP ps) : ∀ x ∈ ps.map U.int, noRef x ∧ inR x 1 1000 = true := fun x hx => by
  obtain ⟨p, hp, rfl⟩ := List.mem_map.mp hx
  have := h.2.2 p hp
  exact ⟨noRef_int _, by simp [inR, this.1, this.2]⟩
theorem row_ok {u : U} {ps : List Int} {G : Gp} (hu : isSeq u (ps.map .int) G) (h : OkP ps) : F_checked_row [u, .int 14, .int 1, .int 1000] G = .ok (.tup (ps.map .int)) G :=
  checked_row_ok hu (by simpa using h.1) (by have := h.2.1; simp; omega) (okRow h)
theorem cut_ok {u : U} {ps : List Int} {G : Gp} (hu : isSeq u (ps.map .int) G) (h : OkP ps) {s : Int} (h1 : 1 ≤ s) (h2 : s ≤ (ps.length : Int)) : F_checked_cut [u, .int s] G = .ok (.tup (ps.map .int)) G := by
  rw [run_checked_cut]
  have c := check_number_ok (lo := 1) (up := (ps.length : Int)) (noRef_int s) G (by simp [inR, h1, h2])
  simp [g_checked_cut, costs_eq (row_ok hu h), c]
theorem cut_num {u v : U} {ps : List Int} {G : Gp} (hu : isSeq u (ps.map .int) G) (h : OkP ps) (hv : noRef v) (hb : inR v 1 (ps.length : Int) = false) : F_checked_cut [u, v] G = .exc "InvalidNumber" [("number", v)] G := by
  rw [run_checked_cut]
  have c := check_number_bad (lo := 1) (up := (ps.length : Int)) hv G hb
  simp [g_checked_cut, costs_eq (row_ok hu h), c]
theorem cut_row {u v : U} {G : Gp} {c : Str} {fs : List (Str × U)} (h : F_checked_row [u, .int 14, .int 1, .int 1000] G = .exc c fs G) : F_checked_cut [u, v] G = .exc c fs G := by
  rw [run_checked_cut]
  simp [g_checked_cut, costs_exc h]
theorem OkP.pos {ps : List Int} (h : OkP ps) : PosR ps := fun c hc => (h.2.2 c hc).1
theorem OkP.ne {ps : List Int} (h : OkP ps) : ps ≠ [] := fun e => by have := h.1; rw [e] at this; simp at this
theorem sum_le {ps : List Int} (h : ∀ p ∈ ps, p ≤ 1000) : ps.sum ≤ 1000 * (ps.length : Int) := by
  induction ps with
  | nil => simp
  | cons d t ih =>
    have := ih (fun p hp => h p (List.mem_cons_of_mem _ hp))
    have := h d List.mem_cons_self
    rw [List.sum_cons, List.length_cons]
    omega
theorem OkP.sum {ps : List Int} (h : OkP ps) : ps.sum ≤ 14000 := by
  have := sum_le (fun p hp => (h.2.2 p hp).2)
  have := h.2.1
  omega
theorem least_ok {u : U} {ps : List Int} {G : Gp} (hu : isSeq u (ps.map .int) G) (h : OkP ps) {s : Nat} (h1 : 1 ≤ s) (h2 : s ≤ ps.length) : ∃ T, F_least_top [u, .int s] G = .ok (.int T) G ∧ IsTop ps s T := by
  obtain ⟨T, e, hT⟩ := top_spec h.pos h.ne h1 (by have := h.sum; omega) G
  refine ⟨T, ?_, hT⟩
  rw [run_least_top]
  have c := cut_ok hu h (s := (s : Int)) (by omega) (by omega)
  obtain ⟨si, hsi⟩ : ∃ si : Int, si = (s : Int) := ⟨_, rfl⟩
  rw [← hsi] at c e ⊢
  simp [g_least_top, c, e]
theorem IsTop.all {ps : List Int} (h : OkP ps) {s : Nat} {T : Int} (hT : IsTop ps s T) : ∀ c ∈ ps, 1 ≤ c ∧ c ≤ T := posR_le h.pos h.ne hT.1
theorem least_num {u v : U} {ps : List Int} {G : Gp} (hu : isSeq u (ps.map .int) G) (h : OkP ps) (hv : noRef v) (hb : inR v 1 (ps.length : Int) = false) : F_least_top [u, v] G = .exc "InvalidNumber" [("number", v)] G := by
  rw [run_least_top]
  simp [g_least_top, cut_num hu h hv hb]
theorem least_row {u v : U} {G : Gp} {c : Str} {fs : List (Str × U)} (h : F_checked_row [u, .int 14, .int 1, .int 1000] G = .exc c fs G) : F_least_top [u, v] G = .exc c fs G := by
  rw [run_least_top]
  simp [g_least_top, cut_row h]
end K02

set_option Elab.async false
set_option linter.all false
set_option maxRecDepth 100000
set_option maxHeartbeats 4000000
set_option autoImplicit false
namespace K02
open PySem PySem.Spec L2 FL

/-! ### same -/
def PDn : Nat → U → Prop
  | _, .non => True
  | _, .bl _ => True
  | _, .int _ => True
  | _, .str _ => True
  | d + 1, .tup xs => xs.length ≤ 1000 ∧ ∀ x ∈ xs, PDn d x
  | _, _ => False
theorem isT_tup (xs : List U) (G : Gp) : isRes tbTup (.tup xs) G = .ok (.bl true) G := rfl
theorem isT_non (G : Gp) : isRes tbTup .non G = .ok (.bl false) G := rfl
theorem isT_bl (b : Bool) (G : Gp) : isRes tbTup (.bl b) G = .ok (.bl false) G := rfl
theorem isT_int (b : Int) (G : Gp) : isRes tbTup (.int b) G = .ok (.bl false) G := rfl
theorem isT_str (b : Str) (G : Gp) : isRes tbTup (.str b) G = .ok (.bl false) G := rfl
theorem isB_bl (b : Bool) (G : Gp) : isRes tbBool (.bl b) G = .ok (.bl true) G := rfl
theorem isB_int (b : Int) (G : Gp) : isRes tbBool (.int b) G = .ok (.bl false) G := rfl
theorem isB_str (b : Str) (G : Gp) : isRes tbBool (.str b) G = .ok (.bl false) G := rfl
theorem isI_int (b : Int) (G : Gp) : isRes tbInt (.int b) G = .ok (.bl true) G := rfl
theorem isI_str (b : Str) (G : Gp) : isRes tbInt (.str b) G = .ok (.bl false) G := rfl
theorem isS_str (b : Str) (G : Gp) : isRes tbStr (.str b) G = .ok (.bl true) G := rfl
theorem same_spec : ∀ (d : Nat) (x : U) (G : Gp), PDn d x → F__law_same (d + 1) [x, x] G = .ok (.bl true) G := by
  intro d
  induction d with
  | zero =>
    intro x G h
    rw [run__law_same]
    cases x with
    | non => simp [g__law_same, isT_non]
    | bl b => simp [g__law_same, g__law_same_3, isT_bl, isB_bl]
    | int b => simp [g__law_same, g__law_same_4, isT_int, isB_int, isI_int]
    | str b => simp [g__law_same, isT_str, isB_str, isI_str, isS_str]
    | _ => exact h.elim
  | succ d ih =>
    intro x G h
    rw [run__law_same]
    cases x with
    | non => simp [g__law_same, isT_non]
    | bl b => simp [g__law_same, g__law_same_3, isT_bl, isB_bl]
    | int b => simp [g__law_same, g__law_same_4, isT_int, isB_int, isI_int]
    | str b => simp [g__law_same, isT_str, isB_str, isI_str, isS_str]
    | tup xs =>
      obtain ⟨hl, hx⟩ := h
      obtain ⟨ni, hni⟩ : ∃ ni : Int, ni = (xs.length : Int) := ⟨_, rfl⟩
      have bl : bLen [.tup xs] G = .ok (.int ni) G := by rw [bLen_tup, hni]
      have L : sFor (iOfs (aCons (eCall bLen (aCons (eVar 1) aNil)) aNil) kRng1) (gNm 2) (g__law_same_1 (F__law_same (d + 1))) [some (.tup xs), some (.tup xs), none] G = .nx [some (.tup xs), some (.tup xs), if xs = [] then none else some (.int ((xs.length - 1 : Nat) : Int))] G ∨ ∃ k, sFor (iOfs (aCons (eCall bLen (aCons (eVar 1) aNil)) aNil) kRng1) (gNm 2) (g__law_same_1 (F__law_same (d + 1))) [some (.tup xs), some (.tup xs), none] G = .nx [some (.tup xs), some (.tup xs), k] G := by
        have hf0 : aCons (eCall bLen (aCons (eVar 1) aNil)) aNil [some (.tup xs), some (.tup xs), none] G = .ok [.int ni] G := by simp only [aCons_, eCall_, eVar_, aNil_, List.getElem?_cons_succ, List.getElem?_cons_zero, r_bind_ok, bl]
        refine Or.inr (sFor_rng1 (j := ni) (G1 := G) (fun i ev G' => G' = G ∧ ∃ k, ev = [some (.tup xs), some (.tup xs), k]) (fun r => ∃ k, r = .nx [some (.tup xs), some (.tup xs), k] G) hf0 (by omega) (by omega) ⟨rfl, none, rfl⟩ ?_ ?_)
        · rintro i hi ev G' ⟨rfl, k, rfl⟩
          have hi' : i < xs.length := by omega
          obtain ⟨ii, hii⟩ : ∃ ii : Int, ii = (i : Int) := ⟨_, rfl⟩
          have gi : ∀ G', gIdx (.tup xs) (.int ii) G' = .ok xs[i] G' := fun G' => gIdx_tup (atI_pos (by omega) (by rw [hii, Int.toNat_natCast]; exact List.getElem?_eq_getElem hi'))
          have r := ih xs[i] G' (hx _ (List.getElem_mem hi'))
          rw [← hii]
          have fine : (gNm 2 (.int ii) [some (.tup xs), some (.tup xs), k] G').andThen [some (.tup xs), some (.tup xs), k] (fun env1 G1 => g__law_same_1 (F__law_same (d + 1)) env1 G1) = .nx [some (.tup xs), some (.tup xs), some (.int ii)] G' := by
            simp [g__law_same_1, gi, r]
          rw [fine]
          exact ⟨rfl, _, rfl⟩
        · rintro ev G' ⟨rfl, k, rfl⟩
          exact ⟨k, rfl⟩
      have L : ∃ k, sFor (iOfs (aCons (eCall bLen (aCons (eVar 1) aNil)) aNil) kRng1) (gNm 2) (g__law_same_1 (F__law_same (d + 1))) [some (.tup xs), some (.tup xs), none] G = .nx [some (.tup xs), some (.tup xs), k] G := by
        rcases L with L | L
        · exact ⟨_, L⟩
        · exact L
      obtain ⟨k, L⟩ := L
      have e2 : g__law_same_2 (F__law_same (d + 1)) [some (.tup xs), some (.tup xs), none] G = .ret (.bl true) G := by
        unfold g__law_same_2
        rw [seq_nx (e' := [some (.tup xs), some (.tup xs), none]) (G' := G) (by simp [isT_tup]), seq_nx L]
        simp
      unfold g__law_same
      generalize g__law_same_2 (F__law_same (d + 1)) = g2 at e2 ⊢
      simp [isT_tup, e2]
    | _ => exact h.elim

/-! ### told -/
theorem fin_ret_then (r : R U) (e : Ev) : fin (r.andThen e fun u G1 => .ret u G1) = r := by cases r <;> rfl
theorem told_ok {w u v x y r : U} {G G' : Gp} (h : F__law_called [w, u, v, x, y] G = .ok r G') : F__law_told [w, u, v, x, y] G = .ok (.tup [.str "told", r]) G' := by
  rw [run__law_told]
  have e : g__law_told_1 [some w, some u, some v, some x, some y, none] G = .ret (.tup [.str "told", r]) G' := by simp [g__law_told_1, h]
  unfold g__law_told sTry
  rw [e]
  rfl
theorem told_row {w u v x y k : U} {G G' : Gp} (h : F__law_called [w, u, v, x, y] G = .exc "InvalidRow" [("place", k)] G') : F__law_told [w, u, v, x, y] G = .ok (.tup [.str "row", k]) G' := by
  rw [run__law_told]
  have e : g__law_told_1 [some w, some u, some v, some x, some y, none] G = .exc "InvalidRow" [("place", k)] [some w, some u, some v, some x, some y, none] G' := by simp [g__law_told_1, h]
  unfold g__law_told sTry
  rw [e]
  rfl
theorem told_num {w u v x y k : U} {G G' : Gp} (h : F__law_called [w, u, v, x, y] G = .exc "InvalidNumber" [("number", k)] G') : F__law_told [w, u, v, x, y] G = .ok (.tup [.str "number", k]) G' := by
  rw [run__law_told]
  have e : g__law_told_1 [some w, some u, some v, some x, some y, none] G = .exc "InvalidNumber" [("number", k)] [some w, some u, some v, some x, some y, none] G' := by simp [g__law_told_1, h]
  unfold g__law_told sTry
  rw [e]
  rfl



theorem called_least (u v x y : U) (G : Gp) : F__law_called [.int 0, u, v, x, y] G = F_least_top [u, v] G := by
  rw [run__law_called]
  refine Eq.trans ?_ (fin_ret_then (F_least_top [u, v] G) [some (.int 0), some u, some v, some x, some y])
  cases q : F_least_top [u, v] G <;> simp [g__law_called, g__law_called_1, q, R.andThen]
theorem called_paper (u v x y : U) (G : Gp) : F__law_called [.int 1, u, v, x, y] G = F_top_paper [u, v] G := by
  rw [run__law_called]
  refine Eq.trans ?_ (fin_ret_then (F_top_paper [u, v] G) [some (.int 1), some u, some v, some x, some y])
  cases q : F_top_paper [u, v] G <;> simp [g__law_called, g__law_called_2, q, R.andThen]
theorem called_holds (u v x y : U) (G : Gp) : F__law_called [.int 2, u, v, x, y] G = F_top_paper_holds [u, v, x, y] G := by
  rw [run__law_called]
  refine Eq.trans ?_ (fin_ret_then (F_top_paper_holds [u, v, x, y] G) [some (.int 2), some u, some v, some x, some y])
  cases q : F_top_paper_holds [u, v, x, y] G <;> simp [g__law_called, q, R.andThen]
end K02

set_option Elab.async false
set_option linter.all false
set_option maxRecDepth 100000
set_option maxHeartbeats 4000000
set_option autoImplicit false
namespace K02
open PySem PySem.Spec L2 FL

/-! ### odd things -/
def Odd (v : U) : Prop := noRef v ∧ PDn 30 v ∧ (∀ i, v = .int i → i < 1 ∨ 1000000 < i) ∧ (isS v = false ∨ v = .tup [] ∨ v = .tup [.non] ∨ v = .tup [.int 0, .int 1])
theorem odd_spec {G : Gp} (hD : Dr G) : ∃ v G', F__law_odd [.ref 0] G = .ok v G' ∧ Odd v ∧ Dr G' ∧ Ext G G' := by
  rw [run__law_odd]
  obtain ⟨big, hbig⟩ : ∃ big : Int, big = 10 ^ 40 := ⟨_, rfl⟩
  have hb : 1000000 < big := by rw [hbig]; decide
  have pw : ∀ G', gPow (.int 10) (.int 40) G' = .ok (.int big) G' := fun G' => by rw [hbig]; rfl
  let xs : List U := [.non, .bl true, .bl false, .int 0, .int (-1), .int (-7), .str "", .str "1", .str "ab", .tup [], .tup [.non], .int big, .int (-big), .tup [.int 0, .int 1]]
  have hodd : ∀ x ∈ xs, Odd x := by
    intro x hx
    simp only [xs, List.mem_cons, List.not_mem_nil, or_false] at hx
    rcases hx with rfl | rfl | rfl | rfl | rfl | rfl | rfl | rfl | rfl | rfl | rfl | rfl | rfl | rfl
    · exact ⟨fun l h => (nomatch h), trivial, fun i h => (nomatch h), Or.inl rfl⟩
    · exact ⟨fun l h => (nomatch h), trivial, fun i h => (nomatch h), Or.inl rfl⟩
    · exact ⟨fun l h => (nomatch h), trivial, fun i h => (nomatch h), Or.inl rfl⟩
    · exact ⟨fun l h => (nomatch h), trivial, fun i h => by cases h; omega, Or.inl rfl⟩
    · exact ⟨fun l h => (nomatch h), trivial, fun i h => by cases h; omega, Or.inl rfl⟩
    · exact ⟨fun l h => (nomatch h), trivial, fun i h => by cases h; omega, Or.inl rfl⟩
    · exact ⟨fun l h => (nomatch h), trivial, fun i h => (nomatch h), Or.inl rfl⟩
    · exact ⟨fun l h => (nomatch h), trivial, fun i h => (nomatch h), Or.inl rfl⟩
    · exact ⟨fun l h => (nomatch h), trivial, fun i h => (nomatch h), Or.inl rfl⟩
    · exact ⟨fun l h => (nomatch h), ⟨by simp, fun x h => by simp at h⟩, fun i h => (nomatch h), Or.inr (Or.inl rfl)⟩
    · exact ⟨fun l h => (nomatch h), ⟨by simp, fun x h => by simp at h; rw [h]; trivial⟩, fun i h => (nomatch h), Or.inr (Or.inr (Or.inl rfl))⟩
    · exact ⟨fun l h => (nomatch h), trivial, fun i h => by cases h; omega, Or.inl rfl⟩
    · exact ⟨fun l h => (nomatch h), trivial, fun i h => by cases h; omega, Or.inl rfl⟩
    · exact ⟨fun l h => (nomatch h), ⟨by simp, fun x h => by simp at h; rcases h with h | h <;> (rw [h]; trivial)⟩, fun i h => (nomatch h), Or.inr (Or.inr (Or.inr rfl))⟩
  obtain ⟨r, G2, e2, a2, b2, o2, d2⟩ := next_spec (b := 14) (dr_push hD (.lst xs)) (by decide)
  have at2 : G2[G.length]? = some (.lst xs) := by rw [o2.2 _ (by have := hD.len; omega)]; exact push_at _ _
  have hr : r.toNat < xs.length := by show r.toNat < 14; omega
  have gi : gIdx (.ref G.length) (.int r) G2 = .ok xs[r.toNat] G2 := gIdx_ref at2 (atI_pos a2 (List.getElem?_eq_getElem hr))
  refine ⟨xs[r.toNat], G2, ?_, hodd _ (List.getElem_mem hr), d2, (ext_push _ _).trans o2.ext⟩
  unfold g__law_odd
  rw [seq_nx (e' := [some (.ref 0), some (.ref G.length)]) (G' := G ++ [.lst xs]) (by simp [pw, xs])]
  generalize xs[r.toNat] = y at gi ⊢
  simp [e2, gi]
theorem Odd.inR {v : U} (h : Odd v) {lo hi : Int} (h1 : 1 ≤ lo) (h2 : hi ≤ 1000000) : inR v lo hi = false := by
  cases v with
  | int i =>
    have := h.2.2.1 i rfl
    by_cases z : lo ≤ i
    · simp [K02.inR, z]; omega
    · simp [K02.inR, z]
  | _ => rfl
theorem Odd.row {v : U} (h : Odd v) (G : Gp) : F_checked_row [v, .int 14, .int 1, .int 1000] G = .exc "InvalidRow" [("place", .int 0)] G := by
  rcases h.2.2.2 with z | rfl | rfl | rfl
  · exact checked_row_kind h.1 z
  · exact checked_row_len (.inl rfl) (.inl rfl)
  · exact checked_row_place (k := 0) (.inl rfl) (by decide) (by decide) (by decide) (fun l h => nomatch h) rfl (fun j _ hj => by omega)
  · exact checked_row_place (k := 0) (.inl rfl) (by decide) (by decide) (by decide) (fun l h => nomatch h) rfl (fun j _ hj => by omega)
theorem OkP.ne_ {ps : List Int} (h : OkP ps) : ps ≠ [] := fun e => by have := h.1; rw [e] at this; simp at this
theorem bmax_ref {ps : List Int} {lp : Nat} {G : Gp} (h : OkP ps) (hp : G[lp]? = some (.lst (ps.map .int))) : bMax [.ref lp] G = .ok (.int (maxL ps)) G := bInts_seq (by rw [seqU_ref, hp]) (fun e => h.ne e.2)
theorem blen_ref {ps : List Int} {lp : Nat} {G : Gp} (hp : G[lp]? = some (.lst (ps.map .int))) : bLen [.ref lp] G = .ok (.int (ps.length : Nat)) G := by
  have := bLen_seq (G := G) (u := .ref lp) (xs := ps.map .int) (by rw [seqU_ref, hp])
  simpa using this
/-- a row that is none: its first wrong place -/
def BadR (u : U) (k : Int) (G : Gp) : Prop := F_checked_row [u, .int 14, .int 1, .int 1000] G = .exc "InvalidRow" [("place", .int k)] G
theorem badc_spec {ps : List Int} {lp : Nat} {G : Gp} (h : OkP ps) (hlp : 0 < lp) (hp : G[lp]? = some (.lst (ps.map .int))) (hD : Dr G) : ∃ (u : U) (k : Int) (G' : Gp), F__law_bad_costs [.ref 0, .ref lp] G = .ok (.tup [u, .int k]) G' ∧ (∀ G'', Ext G' G'' → BadR u k G'') ∧ Dr G' ∧ Ext G G' := by
  rw [run__law_bad_costs]
  obtain ⟨kd, G1, e1, a1, b1, o1, d1⟩ := next_spec (b := 5) hD (by decide)
  have hl := h.2.1
  have hl1 := h.1
  have hp1 := o1.ext.at_ hlp hp
  have bl1 := blen_ref hp1
  by_cases k0 : kd = 0
  · subst k0
    obtain ⟨v, G2, e2, ho, d2, x2⟩ := odd_spec d1
    exact ⟨v, 0, G2, by simp [g__law_bad_costs, g__law_bad_costs_1, e1, e2], fun G'' _ => ho.row G'', d2, o1.ext.trans x2⟩
  · by_cases k1 : kd = 1
    · subst k1
      obtain ⟨vs, G2, e2, at2, l2, q2, d2, x2⟩ := comp_rng (own := [6]) (fa := aCons (eC (.int 15)) aNil) (k := 6) (fe := eBin gIdx (eVar 1) (eBin gMod (eVar 6) (eCall bLen (aCons (eVar 1) aNil)))) (env := [some (.ref 0), some (.ref lp), some (.int 1), none, none, none, none]) (G := G1) (G1 := G1) (n := 15) (fun v => True) (by simp) (by omega) d1 (fun i G2 hi hd hx => by
        have hp2 := hx.at_ hlp hp1
        have bl2 := blen_ref hp2
        obtain ⟨ni, hni⟩ : ∃ ni : Int, ni = ((ps.length : Nat) : Int) := ⟨_, rfl⟩
        obtain ⟨ii, hii⟩ : ∃ ii : Int, ii = ((i : Nat) : Int) := ⟨_, rfl⟩
        rw [← hni] at bl2
        rw [← hii]
        have m1 : gMod (.int ii) (.int ni) G2 = .ok (.int (ii % ni)) G2 := gMod_ii (by omega)
        have hmn : 0 ≤ ii % ni := Int.emod_nonneg _ (by omega)
        have hml : ii % ni < ni := Int.emod_lt_of_pos _ (by omega)
        have hj : (ii % ni).toNat < ps.length := by omega
        have gi : gIdx (.ref lp) (.int (ii % ni)) G2 = .ok (.int ps[(ii % ni).toNat]) G2 := gIdx_ref hp2 (atI_pos hmn (by rw [List.getElem?_map, List.getElem?_eq_getElem hj]; rfl))
        exact ⟨ps[(ii % ni).toNat], G2, by simp [wipeE, bl2, m1, gi], trivial, ⟨rfl, fun _ _ => rfl⟩, hd⟩)
      refine ⟨.ref G1.length, 0, G2, ?_, fun G'' hx => checked_row_len (.inr ⟨_, rfl, hx.at_ d1.len at2⟩) (.inr (by simp [l2])), d2, o1.ext.trans x2⟩
      have ec : g__law_bad_costs_2 [some (.ref 0), some (.ref lp), some (.int 1), none, none, none, none] G1 = .ret (.tup [.ref G1.length, .int 0]) G2 := by
        unfold g__law_bad_costs_2
        simp [e2]
      simp [g__law_bad_costs, e1, ec]
    · have b2 : bList [.ref lp] G1 = .ok (.ref G1.length) (G1 ++ [.lst (ps.map .int)]) := bList_seq (by rw [seqU_ref, hp1])
      obtain ⟨L, hL⟩ : ∃ L, L = G1.length := ⟨_, rfl⟩
      have hL0 : 0 < L := by rw [hL]; exact d1.len
      obtain ⟨G2, hG2⟩ : ∃ G2, G2 = G1 ++ [OU.lst (ps.map .int)] := ⟨_, rfl⟩
      have d2 : Dr G2 := by rw [hG2]; exact dr_push d1 _
      have x2 : Ext G1 G2 := by rw [hG2]; exact ext_push _ _
      have at2 : G2[L]? = some (.lst (ps.map .int)) := by rw [hG2, hL]; exact push_at _ _
      rw [← hG2, ← hL] at b2
      have bl2 := blen_ref at2
      obtain ⟨ni, hni⟩ : ∃ ni : Int, ni = ((ps.length : Nat) : Int) := ⟨_, rfl⟩
      rw [← hni] at bl2
      obtain ⟨r, G3, e3, a3, b3, o3, d3⟩ := next_spec (b := ni) d2 (by omega)
      have at3 : G3[L]? = some (.lst (ps.map .int)) := by rw [o3.2 _ (by omega)]; exact at2
      have s4 := setU_ref (G := G3) (v := .int 1001) at3 a3 (by simp; omega)
      obtain ⟨G4, hG4⟩ : ∃ G4, G4 = G3.set L (.lst ((ps.map U.int).set r.toNat (.int 1001))) := ⟨_, rfl⟩
      have d4 : Dr G4 := by rw [hG4]; exact dr_set d3 (by omega) _
      have x4 : Ext G1 G4 := by rw [hG4]; exact ext_set (x2.trans o3.ext) (by omega) _
      have at4 : G4[L]? = some (.lst ((ps.map U.int).set r.toNat (.int 1001))) := by rw [hG4]; exact set_get at3
      rw [← hG4] at s4
      have hrl : r.toNat < ps.length := by omega
      let W : List U → Prop := fun xs => xs.length = ps.length ∧ (∀ j, j < r.toNat → xs[j]? = (ps.map U.int)[j]?) ∧ ∃ y, xs[r.toNat]? = some y ∧ noRef y ∧ inR y 1 1000 = false
      have w4 : W ((ps.map U.int).set r.toNat (.int 1001)) := ⟨by simp, fun j hj => by rw [List.getElem?_set_ne (by omega)], .int 1001, by rw [List.getElem?_set_self (by simpa using hrl)], noRef_int _, by simp [inR]⟩
      -- the next store
      have step5 : ∃ (xs : List U) (G5 : Gp), sIf (bVal (eBin gGt (eVar 2) (eC (.int 2)))) g__law_bad_costs_3 sNil [some (.ref 0), some (.ref lp), some (.int kd), some (.ref L), some (.int r), none, none] G4 = .nx [some (.ref 0), some (.ref lp), some (.int kd), some (.ref L), some (.int r), none, none] G5 ∧ Dr G5 ∧ Ext G1 G5 ∧ G5[L]? = some (.lst xs) ∧ W xs := by
        by_cases k2 : 2 < kd
        · obtain ⟨v, G5, e5, ho, d5, x5⟩ := odd_spec d4
          have at5 := x5.at_ hL0 at4
          have s5 := setU_ref (G := G5) (v := v) at5 a3 (by simp; omega)
          refine ⟨((ps.map U.int).set r.toNat (.int 1001)).set r.toNat v, G5.set L (.lst (((ps.map U.int).set r.toNat (.int 1001)).set r.toNat v)), by simp [k2, g__law_bad_costs_3, e5, s5], dr_set d5 (by omega) _, ext_set (x4.trans x5) (by omega) _, set_get at5, by simp, fun j hj => ?_, v, ?_, ho.1, ho.inR (by decide) (by decide)⟩
          · rw [List.getElem?_set_ne (by omega), List.getElem?_set_ne (by omega)]
          · rw [List.getElem?_set_self (by simpa using hrl)]
        · exact ⟨_, G4, by simp [k2], d4, x4, at4, w4⟩
      obtain ⟨xs, G5, q5, d5, x5, at5, w5⟩ := step5
      obtain ⟨r6, G6, e6, a6, b6, o6, d6⟩ := next_spec (b := 3) d5 (by decide)
      have at6 : G6[L]? = some (.lst xs) := by rw [o6.2 _ (by omega)]; exact at5
      obtain ⟨bh, hbh⟩ : ∃ bh : Int, bh = r + 1 + r6 := ⟨_, rfl⟩
      have bl6 : bLen [.ref L] G6 = .ok (.int ni) G6 := by
        rw [bLen_seq (xs := xs) (by rw [seqU_ref, at6]), w5.1, hni]
      have step7 : ∃ (ys : List U) (G7 : Gp), sIf (bVal (eBin gLt (eVar 5) (eCall bLen (aCons (eVar 3) aNil)))) g__law_bad_costs_4 sNil [some (.ref 0), some (.ref lp), some (.int kd), some (.ref L), some (.int r), some (.int bh), none] G6 = .nx [some (.ref 0), some (.ref lp), some (.int kd), some (.ref L), some (.int r), some (.int bh), none] G7 ∧ Dr G7 ∧ Ext G1 G7 ∧ G7[L]? = some (.lst ys) ∧ W ys := by
        by_cases k7 : bh < ni
        · obtain ⟨v, G7, e7, ho, d7, x7⟩ := odd_spec d6
          have at7 := x7.at_ hL0 at6
          have s7 := setU_ref (G := G7) (i := bh) (v := v) at7 (by omega) (by rw [w5.1]; omega)
          refine ⟨xs.set bh.toNat v, G7.set L (.lst (xs.set bh.toNat v)), by simp [k7, bl6, g__law_bad_costs_4, e7, s7], dr_set d7 (by omega) _, ext_set (x5.trans (o6.ext.trans x7)) (by omega) _, set_get at7, by simp [w5.1], fun j hj => ?_, ?_⟩
          · rw [List.getElem?_set_ne (by omega)]; exact w5.2.1 j hj
          · obtain ⟨y, y1, y2⟩ := w5.2.2
            exact ⟨y, by rw [List.getElem?_set_ne (by omega)]; exact y1, y2⟩
        · exact ⟨xs, G6, by simp [k7, bl6], d6, x5.trans o6.ext, at6, w5⟩
      obtain ⟨ys, G7, q7, d7, x7, at7, w7⟩ := step7
      obtain ⟨wl, wj, y, wy, wn, wr⟩ := w7
      have hry : r.toNat < ys.length := by omega
      have hyr : ys[r.toNat] = y := by
        rw [List.getElem?_eq_getElem hry] at wy
        exact Option.some.inj wy
      refine ⟨.ref L, r, G7, ?_, fun G'' hx => ?_, d7, o1.ext.trans x7⟩
      · unfold g__law_bad_costs
        rw [seq_nx (e' := [some (.ref 0), some (.ref lp), some (.int kd), none, none, none, none]) (G' := G1) (by simp [e1]), seq_nx (e' := [some (.ref 0), some (.ref lp), some (.int kd), none, none, none, none]) (G' := G1) (by simp [k0]), seq_nx (e' := [some (.ref 0), some (.ref lp), some (.int kd), none, none, none, none]) (G' := G1) (by simp [k1]),
          seq_nx (e' := [some (.ref 0), some (.ref lp), some (.int kd), some (.ref L), none, none, none]) (G' := G2) (by simp [b2]), seq_nx (e' := [some (.ref 0), some (.ref lp), some (.int kd), some (.ref L), some (.int r), none, none]) (G' := G3) (by simp [bl2, e3]),
          seq_nx (e' := [some (.ref 0), some (.ref lp), some (.int kd), some (.ref L), some (.int r), none, none]) (G' := G4) (by simp [s4]), seq_nx q5, seq_nx (e' := [some (.ref 0), some (.ref lp), some (.int kd), some (.ref L), some (.int r), some (.int bh), none]) (G' := G6) (by simp [e6, hbh]), seq_nx q7]
        simp
      · have hr : ((r.toNat : Nat) : Int) = r := by omega
        have := checked_row_place (m := 14) (lo := 1) (up := 1000) (k := r.toNat) (.inr ⟨L, rfl, hx.at_ hL0 at7⟩) (by omega) (by omega) hry (by rw [hyr]; exact wn) (by rw [hyr]; exact wr) (fun j hj hjr => by
          have e := wj j hjr
          rw [List.getElem?_eq_getElem hj, List.getElem?_map, List.getElem?_eq_getElem (by omega)] at e
          have e2 : ys[j] = U.int (ps[j]'(by omega)) := Option.some.inj e
          rw [e2]
          have := h.2.2 (ps[j]'(by omega)) (List.getElem_mem _)
          exact ⟨noRef_int _, by simp [inR, this.1, this.2]⟩)
        rw [hr] at this
        exact this
end K02

set_option Elab.async false
set_option linter.all false
set_option maxRecDepth 100000
set_option maxHeartbeats 4000000
set_option autoImplicit false
/-! the least top by rows; papers: plain -/
namespace K02
open PySem PySem.Spec L2 FL
def Hs (row : List Int) (e : Nat) : Int := (row.take e).sum
theorem Hs_succ {row : List Int} {e : Nat} (h : e < row.length) : Hs row (e + 1) = Hs row e + row[e] := by
  unfold Hs
  rw [List.take_succ_eq_append_getElem h, List.sum_append]
  simp
/-- the first e, in s + 1 parts -/
def CB (T : Int) (row : List Int) : Nat → Nat → Prop
  | 0, e => Hs row e ≤ T
  | s + 1, e => ∃ b, s + 1 ≤ b ∧ b < e ∧ CB T row s b ∧ Hs row e - Hs row b ≤ T
def D (row : List Int) : Nat → Nat → Int
  | 0, e => Hs row e
  | s + 1, e => if e < s + 2 then Hs row row.length else minL ((List.range (e - (s + 1))).map fun j => max (D row s (s + 1 + j)) (Hs row e - Hs row (s + 1 + j)))
theorem minL_le {l : List Int} (hn : l ≠ []) (T : Int) : minL l ≤ T ↔ ∃ y ∈ l, y ≤ T := by
  obtain ⟨h1, h2⟩ := minL_spec hn
  exact ⟨fun h => ⟨_, h1, h⟩, fun ⟨y, hy, h⟩ => Int.le_trans (h2 y hy) h⟩
theorem D_le {row : List Int} {T : Int} : ∀ s e, s + 1 ≤ e → (D row s e ≤ T ↔ CB T row s e)
  | 0, e, _ => Iff.rfl
  | s + 1, e, h => by
    unfold D CB
    rw [if_neg (by omega), minL_le (fun z => by
      have := congrArg List.length z
      simp at this
      omega)]
    constructor
    · rintro ⟨y, hy, hT⟩
      obtain ⟨j, hj, rfl⟩ := List.mem_map.mp hy
      have hj := List.mem_range.mp hj
      refine ⟨s + 1 + j, by omega, by omega, (D_le s (s + 1 + j) (by omega)).mp (by omega), by omega⟩
    · rintro ⟨b, h1, h2, h3, h4⟩
      refine ⟨_, List.mem_map.mpr ⟨b - (s + 1), List.mem_range.mpr (by omega), rfl⟩, ?_⟩
      have e : s + 1 + (b - (s + 1)) = b := by omega
      rw [e]
      have := (D_le (T := T) s b h1).mpr h3
      omega
theorem flat_len {ps : List (List Int)} (h : ∀ p ∈ ps, p ≠ []) : ps.length ≤ ps.flatten.length := by
  induction ps with
  | nil => simp
  | cons p ps ih =>
    have := ih (fun q hq => h q (List.mem_cons_of_mem _ hq))
    have := List.length_pos_iff.mpr (h p List.mem_cons_self)
    simp only [List.length_cons, List.flatten_cons, List.length_append]
    omega
theorem CB_parts {row : List Int} {T : Int} : ∀ s e, s + 1 ≤ e → e ≤ row.length → (CB T row s e ↔ ∃ ps, ps.flatten = row.take e ∧ ps.length = s + 1 ∧ Pts T ps)
  | 0, e, h1, h2 => by
    constructor
    · intro h
      refine ⟨[row.take e], by simp, rfl, fun p hp => ?_⟩
      rw [List.mem_singleton] at hp
      rw [hp]
      refine ⟨fun z => ?_, h⟩
      have := congrArg List.length z
      rw [List.length_take] at this
      simp only [List.length_nil] at this
      omega
    · rintro ⟨ps, e1, e2, e3⟩
      match ps, e1, e2, e3 with
      | [p], e1, e2, e3 =>
        have e4 := (e3 p List.mem_cons_self).2
        have e1 : p = row.take e := by simpa using e1
        show Hs row e ≤ T
        unfold Hs
        rw [← e1]
        exact e4
  | s + 1, e, h1, h2 => by
    constructor
    · rintro ⟨b, b1, b2, b3, b4⟩
      obtain ⟨ps, e1, e2, e3⟩ := (CB_parts s b b1 (by omega)).mp b3
      have hd : row.take e = row.take b ++ (row.take e).drop b := by
        have := (List.take_append_drop b (row.take e)).symm
        rw [List.take_take, Nat.min_eq_left (by omega)] at this
        exact this
      refine ⟨ps ++ [(row.take e).drop b], ?_, by simp [e2], fun p hp => ?_⟩
      · rw [List.flatten_append, e1]
        simp only [List.flatten_cons, List.flatten_nil, List.append_nil]
        exact hd.symm
      · rcases List.mem_append.mp hp with hp | hp
        · exact e3 p hp
        · rw [List.mem_singleton] at hp
          rw [hp]
          refine ⟨fun z => ?_, ?_⟩
          · have := congrArg List.length z
            rw [List.length_drop, List.length_take] at this
            simp only [List.length_nil] at this
            omega
          · have hs := congrArg List.sum hd
            rw [List.sum_append] at hs
            unfold Hs at b4
            omega
    · rintro ⟨ps, e1, e2, e3⟩
      have hne : ps ≠ [] := fun z => by rw [z] at e2; simp at e2
      have hps := List.dropLast_concat_getLast hne
      obtain ⟨qs, hqs⟩ : ∃ qs, qs = ps.dropLast := ⟨_, rfl⟩
      obtain ⟨p, hp⟩ : ∃ p, p = ps.getLast hne := ⟨_, rfl⟩
      rw [← hqs, ← hp] at hps
      have hql : qs.length = s + 1 := by rw [hqs, List.length_dropLast, e2]; rfl
      have hpp := e3 p (by rw [hp]; exact List.getLast_mem hne)
      have hq : ∀ q ∈ qs, q ∈ ps := fun q hq => by rw [← hps]; exact List.mem_append_left _ hq
      rw [← hps, List.flatten_append] at e1
      simp only [List.flatten_cons, List.flatten_nil, List.append_nil] at e1
      have hl := congrArg List.length e1
      rw [List.length_append, List.length_take] at hl
      have hp0 := List.length_pos_iff.mpr hpp.1
      have hf := flat_len (ps := qs) (fun q hq' => (e3 q (hq q hq')).1)
      obtain ⟨b, hb⟩ : ∃ b, b = qs.flatten.length := ⟨_, rfl⟩
      have htb : row.take b = qs.flatten := by
        have := congrArg (List.take b) e1
        rw [List.take_take, Nat.min_eq_left (by omega), List.take_append, hb, List.take_length, Nat.sub_self, List.take_zero, List.append_nil] at this
        rw [hb]; exact this.symm
      refine ⟨b, by omega, by omega, (CB_parts s b (by omega) (by omega)).mpr ⟨qs, htb.symm, hql, fun q hq' => e3 q (hq q hq')⟩, ?_⟩
      unfold Hs
      rw [← e1, htb, List.sum_append]
      have := hpp.2
      omega
theorem least_isTop {row : List Int} {s : Nat} (hp : PosR row) (hn : row ≠ []) (h1 : 1 ≤ s) (h2 : s ≤ row.length) : IsTop row s (D row (s - 1) row.length) := by
  have key : ∀ T, D row (s - 1) row.length ≤ T ↔ Cut T s row := fun T => by
    rw [D_le (s - 1) row.length (by omega), CB_parts (s - 1) row.length (by omega) (Nat.le_refl _), cut_iff_parts, List.take_length, show s - 1 + 1 = s by omega]
  have c := (key _).mp (Int.le_refl _)
  obtain ⟨T, hT⟩ : ∃ T, T = D row (s - 1) row.length := ⟨_, rfl⟩
  rw [← hT] at key c ⊢
  obtain ⟨ps, e1, e2, e3⟩ := cut_iff_parts.mp c
  have hall : ∀ c ∈ row, 1 ≤ c ∧ c ≤ T := fun c hc => by
    rw [← e1] at hc hp
    obtain ⟨q, hq, hcq⟩ := List.mem_flatten.mp hc
    exact mem_le_top (posR_flat hp q hq) (e3 q hq).2 c hcq
  refine ⟨(hall _ (maxL_spec hn).1).2, ((cut_iff hall).mp c).1, fun t t1 t2 => ?_⟩
  have hnc : ¬ Cut t s row := fun z => by have := (key t).mpr z; omega
  rw [cut_iff (posR_le hp hn t1)] at hnc
  omega
theorem isTop_unique {row : List Int} {s : Nat} {T T' : Int} (a : IsTop row s T) (b : IsTop row s T') : T = T' := by
  rcases Int.lt_trichotomy T T' with z | z | z
  · have := b.2.2 T a.1 z
    have := a.2.1
    omega
  · exact z
  · have := a.2.2 T' b.1 z
    have := b.2.1
    omega
/-! ### papers -/
/-- the shortest beginning with that sum -/
def Sh (T : Int) (l : List Int) (k : Nat) : Prop := k ≤ l.length ∧ T ≤ (l.take k).sum ∧ ∀ j, j < k → (l.take j).sum < T
theorem sh_ex : ∀ (l : List Int) (T : Int), T ≤ l.sum → ∃ k, Sh T l k
  | [], T, h => ⟨0, Nat.le_refl _, by simpa using h, fun j hj => absurd hj (Nat.not_lt_zero j)⟩
  | c :: r, T, h => by
    by_cases h0 : T ≤ 0
    · exact ⟨0, Nat.zero_le _, by simpa using h0, fun j hj => absurd hj (Nat.not_lt_zero j)⟩
    · rw [List.sum_cons] at h
      obtain ⟨k, k1, k2, k3⟩ := sh_ex r (T - c) (by omega)
      refine ⟨k + 1, by simp; exact k1, by rw [List.take_succ_cons, List.sum_cons]; omega, fun j hj => ?_⟩
      match j, hj with
      | 0, _ => simp; omega
      | j + 1, hj =>
        have := k3 j (by omega)
        rw [List.take_succ_cons, List.sum_cons]
        omega
theorem Sh.pos {T : Int} {l : List Int} {k : Nat} (h : Sh T l k) (hT : 1 ≤ T) : 1 ≤ k := by
  match k, h with
  | 0, h => have := h.2.1; simp at this; omega
  | k + 1, _ => omega
/-- s pairs, from b on -/
def Chn (T : Int) (row : List Int) : Nat → Nat → List (Nat × Nat) → Prop
  | 0, _, c => c = []
  | j + 1, b, c => ∃ k rest, c = (b, b + k) :: rest ∧ 1 ≤ k ∧ Sh T (row.drop b) k ∧ Chn T row j (b + k - 1) rest
theorem no_cheap {row : List Int} {s : Nat} {T : Int} (hp : PosR row) (hn : row ≠ []) (hT : IsTop row s T) {ps : List (List Int)} (h1 : ps.flatten = row) (h2 : ps.length ≤ s) (h3 : Pts (T - 1) ps) : False := by
  have hm := (maxL_spec hn).1
  have hle : maxL row ≤ T - 1 := by
    rw [← h1] at hm hp
    obtain ⟨q, hq, hcq⟩ := List.mem_flatten.mp hm
    have := (mem_le_top (posR_flat hp q hq) (h3 q hq).2 _ hcq).2
    rw [h1] at this
    exact this
  have a := hT.2.2 (T - 1) hle (by omega)
  have b := need_le h3 (by rw [h1]; exact hp)
  rw [h1] at b
  omega
/-- what is ahead of b, in few cheap parts -/
def Chp (T : Int) (row : List Int) (j b : Nat) : Prop := ∃ ps : List (List Int), ps.flatten = row.take b ∧ ps.length ≤ j ∧ Pts (T - 1) ps
theorem chn_ex {row : List Int} {s : Nat} {T : Int} (hp : PosR row) (hn : row ≠ []) (hT : IsTop row s T) (hT1 : 1 ≤ T) : ∀ j b, j ≤ s → b ≤ row.length → Chp T row (s - j) b → ∃ c, Chn T row j b c
  | 0, b, _, _, _ => ⟨[], rfl⟩
  | j + 1, b, hj, hb, hc => by
    obtain ⟨ps, e1, e2, e3⟩ := hc
    have hsum : T ≤ (row.drop b).sum := by
      apply Int.le_of_not_gt
      intro z
      by_cases hbn : b = row.length
      · refine no_cheap hp hn hT (ps := ps) (by rw [e1, hbn, List.take_length]) (by omega) e3
      · refine no_cheap hp hn hT (ps := ps ++ [row.drop b]) (by rw [List.flatten_append, e1]; simp) (by simp; omega) (fun p hp' => ?_)
        rcases List.mem_append.mp hp' with h | h
        · exact e3 p h
        · rw [List.mem_singleton] at h
          rw [h]
          refine ⟨fun q => ?_, by omega⟩
          have := congrArg List.length q
          rw [List.length_drop] at this
          simp only [List.length_nil] at this
          omega
    obtain ⟨k, hk⟩ := sh_ex _ _ hsum
    have k1 := hk.pos hT1
    have kl := hk.1
    rw [List.length_drop] at kl
    have hlt := hk.2.2 (k - 1) (by omega)
    have htk : row.take (b + (k - 1)) = row.take b ++ (row.drop b).take (k - 1) := List.take_add
    obtain ⟨rest, hr⟩ := chn_ex hp hn hT hT1 j (b + k - 1) (by omega) (by omega) (by
      have e : b + k - 1 = b + (k - 1) := by omega
      rw [e]
      by_cases c : k = 1
      · refine ⟨ps, by rw [htk, e1, c]; simp, by omega, e3⟩
      · refine ⟨ps ++ [(row.drop b).take (k - 1)], by rw [htk, List.flatten_append, e1]; simp, by simp; omega, fun p hp' => ?_⟩
        rcases List.mem_append.mp hp' with h | h
        · exact e3 p h
        · rw [List.mem_singleton] at h
          rw [h]
          refine ⟨fun q => ?_, by omega⟩
          have := congrArg List.length q
          rw [List.length_take, List.length_drop] at this
          simp only [List.length_nil] at this
          omega)
    exact ⟨_, k, rest, rfl, k1, hk, hr⟩
theorem chn_top {row : List Int} {s : Nat} {T : Int} (hp : PosR row) (hn : row ≠ []) (hT : IsTop row s T) (hT1 : 1 ≤ T) : ∃ c, Chn T row s 0 c :=
  chn_ex hp hn hT hT1 s 0 (Nat.le_refl _) (Nat.zero_le _) ⟨[], by simp, by simp, fun p h => by simp at h⟩
end K02

set_option Elab.async false
set_option linter.all false
set_option maxRecDepth 100000
set_option maxHeartbeats 4000000
set_option autoImplicit false
namespace K02
open PySem PySem.Spec L2 FL

theorem srcx_rng2 {a b : Int} {G : Gp} (h1 : -1000000 ≤ a) (h2 : a < 1000000) (h3 : -1000000 ≤ b) (h4 : b < 1000000) : ∃ src, kRng2 [.int a, .int b] G = some src ∧ SrcX src ((List.range (b - a).toNat).map fun i => U.int (a + (i : Nat))) G := by
  obtain ⟨src, e, g⟩ := gives_rng2 (I := fun _ _ _ => True) (a := a) (j := b) (by omega) (by omega) (by omega) (by omega) (G := G)
  exact ⟨src, e, g.1, fun i G2 hi _ => g.2 i [] G2 hi trivial⟩
/-! ### the law's least top -/
def DL (ps : List Int) (s k : Nat) : List U := (List.range k).map fun e => .int (D ps s e)
theorem DL_len (ps : List Int) (s k : Nat) : (DL ps s k).length = k := by simp [DL]
theorem DL_get {ps : List Int} {s k e : Nat} (h : e < k) : (DL ps s k)[e]? = some (.int (D ps s e)) := by
  unfold DL
  rw [List.getElem?_map, List.getElem?_range h]; rfl
theorem DL_succ (ps : List Int) (s k : Nat) : DL ps s (k + 1) = DL ps s k ++ [.int (D ps s k)] := by
  unfold DL
  rw [List.range_succ, List.map_append]; rfl
theorem DL_at {ps : List Int} {s k e l : Nat} {i : Int} {G : Gp} (hl : G[l]? = some (.lst (DL ps s k))) (h : e < k) (hi : i = (e : Int)) : gIdx (.ref l) (.int i) G = .ok (.int (D ps s e)) G :=
  gIdx_ref hl (atI_pos (by omega) (by rw [show i.toNat = e by omega]; exact DL_get h))
theorem DL_end {ps : List Int} {s k l : Nat} {G : Gp} (hl : G[l]? = some (.lst (DL ps s k))) (h : 0 < k) : gIdx (.ref l) (.int (-1)) G = .ok (.int (D ps s (k - 1))) G :=
  gIdx_ref hl (atI_last (by rw [List.getLast?_eq_getElem?, DL_len]; exact DL_get (by omega)))
def EnvT (lp : Nat) (c : Int) (lh : Nat) (pr : Option U) (lt : Nat) (s l e : Option U) : Ev := [some (.ref lp), some (.int c), some (.ref lh), pr, some (.ref lt), s, l, e, none]
theorem least_in {ps : List Int} {lp lh lt ll i : Nat} {c : Int} {pr e0 : Option U} {G : Gp} (hn : ps.length ≤ 14) (hi : i + 2 ≤ ps.length) (hh : G[lh]? = some (.lst (DL ps 0 (ps.length + 1)))) (ht : G[lt]? = some (.lst (DL ps i (ps.length + 1)))) (hl : G[ll]? = some (.lst (DL ps (i + 1) (i + 2)))) (hne : ll ≠ lh ∧ ll ≠ lt) :
    ∃ e' G', sFor (iOfs (aCons (eVar 5) (aCons (eCall bLen (aCons (eVar 2) aNil)) aNil)) kRng2) (gNm 7) g__law_least_2 (EnvT lp c lh pr lt (some (.int ((i + 2 : Nat) : Int))) (some (.ref ll)) e0) G = .nx (EnvT lp c lh pr lt (some (.int ((i + 2 : Nat) : Int))) (some (.ref ll)) e') G' ∧ G.length ≤ G'.length ∧ (∀ l, l < G.length → l ≠ ll → G'[l]? = G[l]?) ∧ G'[ll]? = some (.lst (DL ps (i + 1) (ps.length + 1))) := by
  obtain ⟨si, hsi⟩ : ∃ si : Int, si = ((i + 2 : Nat) : Int) := ⟨_, rfl⟩
  obtain ⟨ni, hni⟩ : ∃ ni : Int, ni = ((ps.length + 1 : Nat) : Int) := ⟨_, rfl⟩
  rw [← hsi]
  have bl : bLen [.ref lh] G = .ok (.int ni) G := by rw [bLen_seq (seqU_of hh), DL_len, hni]
  have lth := (List.getElem?_eq_some_iff.mp hh).1
  have ltt := (List.getElem?_eq_some_iff.mp ht).1
  have ltl := (List.getElem?_eq_some_iff.mp hl).1
  refine sFor_rng2 (a := si) (j := ni) (G1 := G) (fun k ev G' => ∃ e, ev = EnvT lp c lh pr lt (some (.int si)) (some (.ref ll)) e ∧ G.length ≤ G'.length ∧ (∀ l, l < G.length → l ≠ ll → G'[l]? = G[l]?) ∧ G'[ll]? = some (.lst (DL ps (i + 1) (i + 2 + k))))
    (fun r => ∃ e' G', r = .nx (EnvT lp c lh pr lt (some (.int si)) (some (.ref ll)) e') G' ∧ G.length ≤ G'.length ∧ (∀ l, l < G.length → l ≠ ll → G'[l]? = G[l]?) ∧ G'[ll]? = some (.lst (DL ps (i + 1) (ps.length + 1)))) (by simp [EnvT, bl]) (by omega) (by omega) (by omega) (by omega) ⟨e0, rfl, Nat.le_refl _, fun _ _ _ => rfl, hl⟩ ?_ ?_
  · intro k hk ev G1 hI
    obtain ⟨e, he, l1, o1, a1⟩ := hI
    subst he
    have hk' : i + 2 + k < ps.length + 1 := by omega
    have h1 : G1[lh]? = some (.lst (DL ps 0 (ps.length + 1))) := by rw [o1 lh lth (Ne.symm hne.1)]; exact hh
    have t1 : G1[lt]? = some (.lst (DL ps i (ps.length + 1))) := by rw [o1 lt ltt (Ne.symm hne.2)]; exact ht
    obtain ⟨ei, hei⟩ : ∃ ei : Int, ei = si + (k : Int) := ⟨_, rfl⟩
    rw [← hei]
    obtain ⟨src, c1, hs⟩ := srcx_rng2 (a := si - 1) (b := ei) (G := G1) (by omega) (by omega) (by omega) (by omega)
    let f : Nat → Int := fun j => max (D ps i (i + 1 + j)) (Hs ps (i + 2 + k) - Hs ps (i + 1 + j))
    obtain ⟨G2, e2, x2, at2⟩ := comp_pure (own := [8]) (fi := iOfs (aCons (eBin gSub (eVar 5) (eC (.int 1))) (aCons (eVar 7) aNil)) kRng2) (G := G1) (G1 := G1) (gf := gNm 8) (ft := tYesB) (fe := eCall bMax2 (aCons (eBin gIdx (eVar 4) (eVar 8)) (aCons (eBin gSub (eBin gIdx (eVar 2) (eVar 7)) (eBin gIdx (eVar 2) (eVar 8))) aNil))) (env := EnvT lp c lh pr lt (some (.int si)) (some (.ref ll)) (some (.int ei))) (ys := List.range (ei - (si - 1)).toNat) (g := fun j => U.int (si - 1 + (j : Nat))) (fun _ => true) (fun j => U.int (f j)) (iOfs_ok (us := [.int (si - 1), .int ei]) (by simp [EnvT]) c1) hs (by simp; omega) (fun j hj G3 x => by
      have hj' : j < (ei - (si - 1)).toNat := by simpa using hj
      rw [List.getElem_range]
      obtain ⟨bi, hbi⟩ : ∃ bi : Int, bi = si - 1 + (j : Int) := ⟨_, rfl⟩
      have i1 := DL_at (e := i + 1 + j) (i := bi) (x.at_ t1) (by omega) (by omega)
      have i2 := DL_at (e := i + 2 + k) (i := ei) (x.at_ h1) (by omega) (by omega)
      have i3 := DL_at (e := i + 1 + j) (i := bi) (x.at_ h1) (by omega) (by omega)
      rw [← hbi]
      have hf : f j = max (D ps i (i + 1 + j)) (D ps 0 (i + 2 + k) - D ps 0 (i + 1 + j)) := rfl
      rw [hf]
      generalize D ps i (i + 1 + j) = z1 at i1 ⊢
      generalize D ps 0 (i + 2 + k) = z2 at i2 ⊢
      generalize D ps 0 (i + 1 + j) = z3 at i3 ⊢
      exact ⟨_, rfl, rfl, fun _ => by simp [EnvT, wipeE, i1, i2, i3]⟩)
    have e3 : (List.range (ei - (si - 1)).toNat).filter (fun _ => true) = List.range (ei - (si - 1)).toNat := List.filter_eq_self.mpr fun _ _ => rfl
    rw [e3] at at2
    have hcnt : (ei - (si - 1)).toNat = i + 2 + k - (i + 1) := by omega
    have hD : D ps (i + 1) (i + 2 + k) = minL ((List.range (ei - (si - 1)).toNat).map f) := by
      rw [hcnt]
      show (if i + 2 + k < i + 2 then _ else _) = _
      rw [if_neg (by omega)]
    have bm : bMin [.ref G1.length] G2 = .ok (.int (D ps (i + 1) (i + 2 + k))) G2 := by
      rw [hD]
      refine bInts_seq (by rw [seqU_of at2, List.map_map]; rfl) (fun h => ?_)
      have := congrArg List.length h.2
      simp at this
      omega
    have a2 := x2.at_ a1
    have ap : mAppend (.ref ll) [.int (D ps (i + 1) (i + 2 + k))] G2 = .ok .non (G2.set ll (.lst (DL ps (i + 1) (i + 2 + k + 1)))) := by
      rw [mAppend_ref a2 (by rw [DL_len]; omega), DL_succ]
    have il := isLst_ref a2
    have fine : (gNm 7 (.int ei) (EnvT lp c lh pr lt (some (.int si)) (some (.ref ll)) e) G1).andThen (EnvT lp c lh pr lt (some (.int si)) (some (.ref ll)) e) (fun env1 G1 => g__law_least_2 env1 G1) = .nx (EnvT lp c lh pr lt (some (.int si)) (some (.ref ll)) (some (.int ei))) (G2.set ll (.lst (DL ps (i + 1) (i + 2 + k + 1)))) := by
      rw [gNm_, r_then_ok]
      show g__law_least_2 (EnvT lp c lh pr lt (some (.int si)) (some (.ref ll)) (some (.int ei))) G1 = _
      unfold g__law_least_2
      have il1 := isLst_ref a1
      have ev : eVar 6 (EnvT lp c lh pr lt (some (.int si)) (some (.ref ll)) (some (.int ei))) G1 = .ok (.ref ll) G1 := rfl
      have ec : (eCall bMin (aCons (eComp [8] (iOfs (aCons (eBin gSub (eVar 5) (eC (.int 1))) (aCons (eVar 7) aNil)) kRng2) (gNm 8) tYesB (eCall bMax2 (aCons (eBin gIdx (eVar 4) (eVar 8)) (aCons (eBin gSub (eBin gIdx (eVar 2) (eVar 7)) (eBin gIdx (eVar 2) (eVar 8))) aNil)))) aNil)) (EnvT lp c lh pr lt (some (.int si)) (some (.ref ll)) (some (.int ei))) G1 = .ok (.int (D ps (i + 1) (i + 2 + k))) G2 := by
        rw [eCall_, aCons_, e2]
        simp only [r_bind_ok, aNil_, bm]
      rw [sExpr_, eMeth_, ev]
      simp only [r_bind_ok, il1, if_true, aCons_, ec, aNil_, ap, r_then_ok]
    rw [fine]
    refine ⟨_, rfl, by have := x2.1; simp; omega, fun l h0 h1 => ?_, ?_⟩
    · rw [List.getElem?_set_ne (Ne.symm h1), x2.2 l (by omega), o1 l h0 h1]
    · exact set_get a2
  · intro ev G1 hI
    obtain ⟨e, he, l1, o1, a1⟩ := hI
    subst he
    refine ⟨e, G1, rfl, l1, o1, ?_⟩
    rw [show i + 2 + (ni - si).toNat = ps.length + 1 by omega] at a1
    exact a1
theorem least_spec {ps : List Int} {lp s : Nat} {G : Gp} (h : OkP ps) (hp : G[lp]? = some (.lst (ps.map .int))) (h1 : 1 ≤ s) (h2 : s ≤ ps.length) : ∃ G', F__law_least [.ref lp, .int (s : Nat)] G = .ok (.int (D ps (s - 1) ps.length)) G' ∧ Ex0 G G' := by
  rw [run__law_least]
  have hn := h.2.1
  obtain ⟨c, hc⟩ : ∃ c : Int, c = (s : Int) := ⟨_, rfl⟩
  rw [← hc]
  obtain ⟨lh, hlh⟩ : ∃ lh, lh = G.length := ⟨_, rfl⟩
  obtain ⟨G1, hG1⟩ : ∃ G1, G1 = G ++ [OU.lst [.int 0]] := ⟨_, rfl⟩
  have x1 : Ex0 G G1 := by rw [hG1]; exact ex0_push _ _
  have a1 : G1[lh]? = some (.lst (DL ps 0 1)) := by rw [hG1, hlh, push_at]; rfl
  let E0 (p : Option U) : Ev := [some (.ref lp), some (.int c), some (.ref lh), p, none, none, none, none, none]
  have L1 : ∃ p G2, sFor (iOf (eVar 0) kSeq) (gNm 3) g__law_least_1 (E0 none) G1 = .nx (E0 p) G2 ∧ Ex0 G G2 ∧ G2[lh]? = some (.lst (DL ps 0 (ps.length + 1))) := by
    have hlm : (ps.map U.int).length = ps.length := List.length_map ..
    refine sFor_ref (l := lp) (xs := ps.map .int) (G1 := G1) (fun i ev G' => ∃ p, ev = E0 p ∧ Ex0 G G' ∧ G'[lh]? = some (.lst (DL ps 0 (i + 1)))) (fun r => ∃ p G2, r = .nx (E0 p) G2 ∧ Ex0 G G2 ∧ G2[lh]? = some (.lst (DL ps 0 (ps.length + 1)))) (by simp [E0]) (x1.at_ hp) (fun i ev G' hI => by obtain ⟨p, _, x, _⟩ := hI; exact x.at_ hp) ⟨none, rfl, x1, a1⟩ ?_ ?_
    · intro i hi ev G' hI
      obtain ⟨p, he, x, a⟩ := hI
      subst he
      have hi' : i < ps.length := by omega
      have hget : (ps.map U.int)[i] = .int ps[i] := by rw [List.getElem_map]
      rw [hget]
      have hD : D ps 0 (i + 1) = D ps 0 i + ps[i] := Hs_succ hi'
      generalize ps[i] = pr at hD ⊢
      have i1 := DL_end a (by omega)
      rw [Nat.add_sub_cancel] at i1
      have ap : mAppend (.ref lh) [.int (D ps 0 i + pr)] G' = .ok .non (G'.set lh (.lst (DL ps 0 (i + 1 + 1)))) := by
        rw [mAppend_ref a (by rw [DL_len]; omega), ← hD, DL_succ ps 0 (i + 1)]
      have il := isLst_ref a
      have fine : (gNm 3 (.int pr) (E0 p) G').andThen (E0 p) (fun env1 G1 => g__law_least_1 env1 G1) = .nx (E0 (some (.int pr))) (G'.set lh (.lst (DL ps 0 (i + 1 + 1)))) := by
        simp [E0, g__law_least_1, eMeth_, il, i1, ap]
      rw [fine]
      exact ⟨_, rfl, ex0_set x (by omega) _, set_get a⟩
    · intro ev G' hI
      obtain ⟨p, he, x, a⟩ := hI
      subst he
      rw [hlm] at a
      exact ⟨p, G', rfl, x, a⟩
  obtain ⟨p, G2, L1, x2, a2⟩ := L1
  have L2 : ∃ lt s' l e G3, sFor (iOfs (aCons (eC (.int 2)) (aCons (eBin gAdd (eVar 1) (eC (.int 1))) aNil)) kRng2) (gNm 5) g__law_least_3 (EnvT lp c lh p lh none none none) G2 = .nx (EnvT lp c lh p lt s' l e) G3 ∧ Ex0 G G3 ∧ G3[lt]? = some (.lst (DL ps (s - 1) (ps.length + 1))) := by
    refine sFor_rng2 (a := 2) (j := c + 1) (G1 := G2) (fun i ev G' => ∃ lt s' l e, ev = EnvT lp c lh p lt s' l e ∧ Ex0 G G' ∧ G.length ≤ lt ∧ G'[lh]? = some (.lst (DL ps 0 (ps.length + 1))) ∧ G'[lt]? = some (.lst (DL ps i (ps.length + 1)))) (fun r => ∃ lt s' l e G3, r = .nx (EnvT lp c lh p lt s' l e) G3 ∧ Ex0 G G3 ∧ G3[lt]? = some (.lst (DL ps (s - 1) (ps.length + 1)))) (by simp [EnvT]) (by omega) (by omega) (by omega) (by omega) ⟨lh, _, _, _, rfl, x2, by omega, a2, a2⟩ ?_ ?_
    · intro i hi ev G' hI
      obtain ⟨lt, s', l, e, he, x, hlt, ah, at_⟩ := hI
      subst he
      have hi' : i + 2 ≤ ps.length := by omega
      generalize hsi' : (2 : Int) + ((i : Nat) : Int) = si
      have hsi := hsi'.symm
      clear hsi'
      have hsi2 : si = ((i + 2 : Nat) : Int) := by omega
      obtain ⟨src, c1, hs⟩ := srcx_rng (n := i + 2) (G := G') (by omega)
      rw [← hsi2] at c1
      obtain ⟨tot, htot⟩ : ∃ tot, tot = D ps 0 ps.length := ⟨_, rfl⟩
      obtain ⟨G4, e4, x4, a4⟩ := comp_pure (own := [7]) (fi := iOfs (aCons (eVar 5) aNil) kRng1) (G := G') (G1 := G') (gf := gNm 7) (ft := tYesB) (fe := eBin gIdx (eVar 2) (eUn gNeg (eC (.int 1)))) (env := EnvT lp c lh p lt (some (.int si)) l e) (ys := List.range (i + 2)) (g := fun j => U.int (j : Nat)) (fun _ => true) (fun _ => U.int tot) (iOfs_ok (us := [.int si]) (by simp [EnvT]) c1) hs (by simp; omega) (fun j hj G5 x5 => by
        have i1 := DL_end (x5.at_ ah) (by omega)
        rw [Nat.add_sub_cancel, ← htot] at i1
        exact ⟨_, rfl, rfl, fun _ => by simp [EnvT, wipeE, i1]⟩)
      have a4 : G4[G'.length]? = some (.lst (DL ps (i + 1) (i + 2))) := by
        rw [a4]
        congr 2
        rw [List.filter_eq_self.mpr fun _ _ => rfl]
        unfold DL
        refine List.map_congr_left fun q hq => ?_
        have hq := List.mem_range.mp hq
        rw [htot]
        show U.int (Hs ps ps.length) = U.int (if q < i + 2 then _ else _)
        rw [if_pos hq]
      have lth := (List.getElem?_eq_some_iff.mp ah).1
      have ltt := (List.getElem?_eq_some_iff.mp at_).1
      obtain ⟨e', G5, e5, l5, o5, a5⟩ := least_in (lp := lp) (c := c) (pr := p) (e0 := e) hn hi' (x4.at_ ah) (x4.at_ at_) a4 ⟨by omega, by omega⟩
      rw [← hsi2] at e5
      have fine : (gNm 5 (.int si) (EnvT lp c lh p lt s' l e) G').andThen (EnvT lp c lh p lt s' l e) (fun env1 G1 => g__law_least_3 env1 G1) = .nx (EnvT lp c lh p G'.length (some (.int si)) (some (.ref G'.length)) e') G5 := by
        rw [gNm_, r_then_ok]
        show g__law_least_3 (EnvT lp c lh p lt (some (.int si)) l e) G' = _
        unfold g__law_least_3
        rw [seq_nx (e' := EnvT lp c lh p lt (some (.int si)) (some (.ref G'.length)) e) (G' := G4) (by rw [sAsg_, e4]; rfl), seq_nx e5]
        simp [EnvT]
      rw [fine]
      have hx := x.1
      refine ⟨G'.length, _, _, _, rfl, ⟨by have := x4.1; omega, fun q hq => ?_⟩, by omega, ?_, a5⟩
      · rw [o5 q (by have := x4.1; omega) (by omega)]
        exact (x.trans x4).2 q hq
      · rw [o5 lh (by have := x4.1; omega) (by omega)]
        exact x4.at_ ah
    · intro ev G' hI
      obtain ⟨lt, s', l, e, he, x, hlt, ah, at_⟩ := hI
      subst he
      rw [show (c + 1 - 2).toNat = s - 1 by omega] at at_
      exact ⟨lt, s', l, e, G', rfl, x, at_⟩
  obtain ⟨lt, s', l, e, G3, L2, x3, a3⟩ := L2
  have i3 := DL_end a3 (by omega)
  rw [Nat.add_sub_cancel] at i3
  refine ⟨G3, ?_, x3⟩
  unfold g__law_least
  rw [seq_nx (e' := E0 none) (G' := G1) (by simp [E0, hG1, hlh]), seq_nx L1, seq_nx (e' := EnvT lp c lh p lh none none none) (G' := G2) (by simp [E0, EnvT]), seq_nx L2]
  simp [EnvT, i3]
end K02

set_option Elab.async false
set_option linter.all false
set_option maxRecDepth 100000
set_option maxHeartbeats 4000000
set_option autoImplicit false
namespace K02
open PySem PySem.Spec L2 FL

/-! ### papers -/
def prU (p : Nat × Nat) : U := .tup [.int (p.1 : Nat), .int (p.2 : Nat)]
theorem cutU_mid {α : Type} (xs : List α) {b e : Nat} {bi ei : Int} (hb : bi = (b : Int)) (he : ei = (e : Int)) (h1 : b ≤ e) (h2 : e ≤ xs.length) : cutU xs (some bi) (some ei) = (xs.drop b).take (e - b) := by
  subst hb
  subst he
  unfold cutU
  rw [HT.sIx_nat, HT.sIx_nat, Nat.min_eq_left (show b ≤ xs.length by omega), Nat.min_eq_left h2]
/-- a slice of the list, summed -/
theorem sl_ref {ps : List Int} {lp : Nat} {lo hi : Option Int} {G : Gp} (hp : G[lp]? = some (.lst (ps.map .int))) : ∃ G', gSl (.ref lp) lo hi G = .ok (.ref G.length) G' ∧ Ex0 G G' ∧ bSum [.ref G.length] G' = .ok (.int (cutU ps lo hi).sum) G' := by
  refine ⟨G ++ [.lst ((cutU ps lo hi).map .int)], ?_, ex0_push _ _, ?_⟩
  · unfold gSl
    simp only [hp]
    rw [cutU_map]
  · exact bInts_seq (seqU_of (push_at _ _)) (fun h => nomatch h.1)
theorem sl_tup {ps : List Int} {lo hi : Option Int} (G : Gp) : gSl (.tup (ps.map .int)) lo hi G = .ok (.tup ((cutU ps lo hi).map .int)) G := by
  show R.ok (U.tup (cutU (ps.map U.int) lo hi)) G = _
  rw [cutU_map]
theorem sum_tup {ns : List Int} (G : Gp) : bSum [.tup (ns.map .int)] G = .ok (.int ns.sum) G := bInts_seq rfl (fun h => nomatch h.1)
/-- the end of the next row of neighbors -/
theorem shortest_spec {ps : List Int} {T : Int} {b k : Nat} (hn : ps.length ≤ 14) (hk : Sh T (ps.drop b) k) (G : Gp) : F_shortest_from [.tup (ps.map .int), .int (b : Nat), .int T] G = .ok (.int ((b + k : Nat) : Int)) G := by
  rw [run_shortest_from]
  have hl := hk.1
  rw [List.length_drop] at hl
  obtain ⟨bi, hbi⟩ : ∃ bi : Int, bi = (b : Int) := ⟨_, rfl⟩
  rw [← hbi]
  let E (x y : Int) : Ev := [some (.tup (ps.map .int)), some (.int bi), some (.int T), some (.int x), some (.int y)]
  have L : ∃ y, whileN (bVal (eBin gLt (eVar 4) (eVar 2))) g_shortest_from_1 bigN (E bi 0) G = .nx (E ((b + k : Nat) : Int) y) G := by
    refine while_post (I := fun ev G' => G' = G ∧ ∃ j, j ≤ k ∧ ev = E ((b + j : Nat) : Int) ((ps.drop b).take j).sum)
      (m := fun ev _ => match ev with
        | [_, _, _, some (.int x), _] => (((b + k : Nat) : Int) - x).toNat
        | _ => 0) (fun r => ∃ y, r = .nx (E ((b + k : Nat) : Int) y) G) ?_ bigN _ _ ⟨rfl, 0, Nat.zero_le _, by simp [E, hbi]⟩ ?_
    · rintro ev G' ⟨rfl, j, hj, rfl⟩
      by_cases c : j = k
      · subst c
        have h2 : ¬ ((ps.drop b).take j).sum < T := by have := hk.2.1; omega
        refine ⟨false, G', by simp [E, h2], fun h => (nomatch h), fun _ => ⟨_, rfl⟩⟩
      · have h2 : ((ps.drop b).take j).sum < T := hk.2.2 j (by omega)
        have hbj : b + j < ps.length := by omega
        obtain ⟨xi, hxi⟩ : ∃ xi : Int, xi = ((b + j : Nat) : Int) := ⟨_, rfl⟩
        have ix : gIdx (.tup (ps.map .int)) (.int xi) G' = .ok (.int (ps[b + j])) G' := gIdx_tup (atI_pos (by omega) (by rw [show xi.toNat = b + j by omega, List.getElem?_map, List.getElem?_eq_getElem hbj]; rfl))
        have hs : ((ps.drop b).take (j + 1)).sum = ((ps.drop b).take j).sum + ps[b + j] := by
          rw [List.take_succ_eq_append_getElem (by simp; omega), List.sum_append]
          simp
        refine ⟨true, G', by simp [E, h2], fun _ => ?_, fun h => nomatch h⟩
        generalize ps[b + j] = pz at ix hs
        rw [← hxi]
        have fine : g_shortest_from_1 (E xi ((ps.drop b).take j).sum) G' = .nx (E (xi + 1) ((ps.drop b).take (j + 1)).sum) G' := by
          rw [hs]
          simp [g_shortest_from_1, E, ix]
        rw [fine]
        refine ⟨⟨rfl, j + 1, by omega, by rw [hxi]; rfl⟩, ?_⟩
        show (((b + k : Nat) : Int) - (xi + 1)).toNat < (((b + k : Nat) : Int) - xi).toNat
        omega
    · show (((b + k : Nat) : Int) - bi).toNat < bigN
      unfold bigN
      omega
  obtain ⟨y, L⟩ := L
  unfold g_shortest_from
  rw [seq_nx (e' := [some (.tup (ps.map .int)), some (.int bi), some (.int T), some (.int bi), none]) (G' := G) (by simp), seq_nx (e' := E bi 0) (G' := G) (by simp [E]), seq_nx L]
  generalize ((b + k : Nat) : Int) = z
  simp [E]
theorem top_paper_ok {u : U} {ps : List Int} {s : Nat} {T : Int} {c : List (Nat × Nat)} {G : Gp} (hu : isSeq u (ps.map .int) G) (h : OkP ps) (h1 : 1 ≤ s) (h2 : s ≤ ps.length) (hT : IsTop ps s T) (hc : Chn T ps s 0 c) : ∃ G', F_top_paper [u, .int (s : Nat)] G = .ok (.tup (c.map prU)) G' ∧ Ex0 G G' := by
  rw [run_top_paper]
  have hn := h.2.1
  obtain ⟨T', e1, hT'⟩ := top_spec (s := s) h.pos h.ne h1 (by have := h.sum; omega) G
  rw [isTop_unique hT' hT] at e1
  have ck := cut_ok hu h (s := (s : Int)) (by omega) (by omega)
  obtain ⟨si, hsi⟩ : ∃ si : Int, si = (s : Int) := ⟨_, rfl⟩
  rw [← hsi] at e1 ck ⊢
  obtain ⟨lf, hlf⟩ : ∃ lf, lf = G.length := ⟨_, rfl⟩
  obtain ⟨G1, hG1⟩ : ∃ G1, G1 = G ++ [OU.lst []] := ⟨_, rfl⟩
  have x1 : Ex0 G G1 := by rw [hG1]; exact ex0_push _ _
  have a1 : G1[lf]? = some (.lst []) := by rw [hG1, hlf]; exact push_at _ _
  let E (b : Option U) (i e : Option U) : Ev := [some u, some (.int si), some (.tup (ps.map .int)), some (.int T), some (.ref lf), b, i, e]
  have L : ∃ b i e G2, sFor (iOfs (aCons (eVar 1) aNil) kRng1) (gNm 6) g_top_paper_1 (E (some (.int 0)) none none) G1 = .nx (E b i e) G2 ∧ Ex0 G G2 ∧ G2[lf]? = some (.lst (c.map prU)) := by
    refine sFor_rng1 (j := si) (G1 := G1) (fun j ev G' => ∃ (b : Nat) (i e : Option U) (done rest : List (Nat × Nat)), ev = E (some (.int (b : Nat))) i e ∧ Ex0 G G' ∧ G'[lf]? = some (.lst (done.map prU)) ∧ done.length = j ∧ c = done ++ rest ∧ Chn T ps (s - j) b rest) (fun r => ∃ b i e G2, r = .nx (E b i e) G2 ∧ Ex0 G G2 ∧ G2[lf]? = some (.lst (c.map prU))) (by simp [E]) (by omega) (by omega) ⟨0, _, _, [], c, rfl, x1, a1, rfl, rfl, hc⟩ ?_ ?_
    · intro j hj ev G' hI
      obtain ⟨b, i, e, done, rest, he, x, a, hd, hcr, hch⟩ := hI
      subst he
      obtain ⟨m, hm⟩ : ∃ m, s - j = m + 1 := ⟨s - j - 1, by omega⟩
      rw [hm] at hch
      obtain ⟨k, r2, hr, k1, hk, hch2⟩ := hch
      have hkl := hk.1
      rw [List.length_drop] at hkl
      have se := shortest_spec (b := b) hn hk G'
      obtain ⟨bi, hbi⟩ : ∃ bi : Int, bi = ((b : Nat) : Int) := ⟨_, rfl⟩
      obtain ⟨ei, hei⟩ : ∃ ei : Int, ei = ((b + k : Nat) : Int) := ⟨_, rfl⟩
      rw [← hbi, ← hei] at se
      rw [← hbi]
      have ap : mAppend (.ref lf) [.tup [.int bi, .int ei]] G' = .ok .non (G'.set lf (.lst ((done ++ [(b, b + k)]).map prU))) := by
        rw [mAppend_ref a (by rw [List.length_map]; omega), List.map_append, hbi, hei]; rfl
      have il := isLst_ref a
      generalize ((j : Nat) : Int) = ji
      have fine : (gNm 6 (.int ji) (E (some (.int bi)) i e) G').andThen (E (some (.int bi)) i e) (fun env1 G1 => g_top_paper_1 env1 G1) = .nx (E (some (.int (ei - 1))) (some (.int ji)) (some (.int ei))) (G'.set lf (.lst ((done ++ [(b, b + k)]).map prU))) := by
        simp [E, g_top_paper_1, se, eMeth_, il, ap]
      rw [fine]
      refine ⟨b + k - 1, _, _, done ++ [(b, b + k)], r2, by rw [show ((b + k - 1 : Nat) : Int) = ei - 1 by omega], ex0_set x (by omega) _, set_get a, by simp [hd], by rw [hcr, hr]; simp, by rw [show s - (j + 1) = m by omega]; exact hch2⟩
    · intro ev G' hI
      obtain ⟨b, i, e, done, rest, he, x, a, hd, hcr, hch⟩ := hI
      subst he
      rw [show s - si.toNat = 0 by omega] at hch
      have hr : rest = [] := hch
      rw [hr, List.append_nil] at hcr
      rw [← hcr] at a
      exact ⟨_, i, e, G', rfl, x, a⟩
  obtain ⟨b, i, e, G2, L, x2, a2⟩ := L
  have bt := bTuple_seq (seqU_of a2)
  refine ⟨G2, ?_, x2⟩
  unfold g_top_paper
  rw [seq_nx (e' := [some u, some (.int si), some (.tup (ps.map .int)), none, none, none, none, none]) (G' := G) (by simp [ck]), seq_nx (e' := [some u, some (.int si), some (.tup (ps.map .int)), some (.int T), none, none, none, none]) (G' := G) (by simp [e1]), seq_nx (e' := [some u, some (.int si), some (.tup (ps.map .int)), some (.int T), some (.ref lf), none, none, none]) (G' := G1) (by simp [hG1, hlf]), seq_nx (e' := E (some (.int 0)) none none) (G' := G1) (by simp [E]), seq_nx L]
  simp [E, bt]
/-! the law's paper -/
def EnvY (lp : Nat) (c T : Int) (lf : Nat) (b : Int) (k : Option U) (e p : Option U) : Ev := [some (.ref lp), some (.int c), some (.int T), some (.ref lf), some (.int b), k, e, p]
theorem paper_in {ps : List Int} {lp lf b k : Nat} {c T bi : Int} {kk p0 : Option U} {G : Gp} (h : OkP ps) (hp : G[lp]? = some (.lst (ps.map .int))) (hbi : bi = (b : Int)) (hk : Sh T (ps.drop b) k) (k1 : 1 ≤ k) :
    ∃ p' G', sFor (iOfs (aCons (eCall bLen (aCons (eVar 0) aNil)) aNil) kRng1) (gNm 7) g__law_paper_1 (EnvY lp c T lf bi kk (some (.int (bi + 1))) p0) G = .nx (EnvY lp c T lf bi kk (some (.int ((b + k : Nat) : Int))) p') G' ∧ Ex0 G G' := by
  have hn := h.2.1
  have hl := hk.1
  rw [List.length_drop] at hl
  obtain ⟨ni, hni⟩ : ∃ ni : Int, ni = (ps.length : Int) := ⟨_, rfl⟩
  have bl : ∀ G', Ex0 G G' → bLen [.ref lp] G' = .ok (.int ni) G' := fun G' x => by rw [bLen_seq (seqU_of (x.at_ hp)), List.length_map, hni]
  refine sFor_rng1 (j := ni) (G1 := G) (fun i ev G' => ∃ p, ev = EnvY lp c T lf bi kk (some (.int ((b + min (i + 1) k : Nat) : Int))) p ∧ Ex0 G G') (fun r => ∃ p' G', r = .nx (EnvY lp c T lf bi kk (some (.int ((b + k : Nat) : Int))) p') G' ∧ Ex0 G G') (by simp [EnvY, bl G (Ex0.refl _)]) (by omega) (by omega) ⟨p0, by rw [show min (0 + 1) k = 1 by omega, show ((b + 1 : Nat) : Int) = bi + 1 by omega], Ex0.refl _⟩ ?_ ?_
  · intro i hi ev G' hI
    obtain ⟨p, he, x⟩ := hI
    subst he
    obtain ⟨q, hq⟩ : ∃ q, q = min (i + 1) k := ⟨_, rfl⟩
    rw [← hq]
    obtain ⟨ei, hei⟩ : ∃ ei : Int, ei = ((b + q : Nat) : Int) := ⟨_, rfl⟩
    rw [← hei]
    generalize ((i : Nat) : Int) = ii
    have bl' := bl G' x
    obtain ⟨G2, sl, x2, bs⟩ := sl_ref (lo := some bi) (hi := some ei) (x.at_ hp)
    have hcut := cutU_mid ps (b := b) (e := b + q) hbi hei (by omega) (by omega)
    rw [hcut, show b + q - b = q by omega] at bs
    by_cases c1 : ei < ni
    · by_cases c2 : ((ps.drop b).take q).sum < T
      · have hqk : q < k := by
          by_cases z : q = k
          · have := hk.2.1; rw [z] at c2; omega
          · omega
        have fine : (gNm 7 (.int ii) (EnvY lp c T lf bi kk (some (.int ei)) p) G').andThen (EnvY lp c T lf bi kk (some (.int ei)) p) (fun env1 G1 => g__law_paper_1 env1 G1) = .nx (EnvY lp c T lf bi kk (some (.int (ei + 1))) (some (.int ii))) G2 := by
          simp [EnvY, g__law_paper_1, bl', c1, sl, bs, c2]
        rw [fine]
        refine ⟨some (.int ii), ?_, x.trans x2⟩
        have : ei + 1 = ((b + min (i + 1 + 1) k : Nat) : Int) := by omega
        rw [this]
      · have hqk : q = k := by
          by_cases z : q < k
          · exact absurd (hk.2.2 q z) c2
          · omega
        have fine : (gNm 7 (.int ii) (EnvY lp c T lf bi kk (some (.int ei)) p) G').andThen (EnvY lp c T lf bi kk (some (.int ei)) p) (fun env1 G1 => g__law_paper_1 env1 G1) = .nx (EnvY lp c T lf bi kk (some (.int ei)) (some (.int ii))) G2 := by
          simp [EnvY, g__law_paper_1, bl', c1, sl, bs, c2]
        rw [fine]
        refine ⟨some (.int ii), ?_, x.trans x2⟩
        have : ei = ((b + min (i + 1 + 1) k : Nat) : Int) := by omega
        rw [this]
    · have fine : (gNm 7 (.int ii) (EnvY lp c T lf bi kk (some (.int ei)) p) G').andThen (EnvY lp c T lf bi kk (some (.int ei)) p) (fun env1 G1 => g__law_paper_1 env1 G1) = .nx (EnvY lp c T lf bi kk (some (.int ei)) (some (.int ii))) G' := by
        simp [EnvY, g__law_paper_1, bl', c1]
      rw [fine]
      refine ⟨some (.int ii), ?_, x⟩
      have : ei = ((b + min (i + 1 + 1) k : Nat) : Int) := by omega
      rw [this]
  · intro ev G' hI
    obtain ⟨p, he, x⟩ := hI
    subst he
    refine ⟨p, G', ?_, x⟩
    rw [show min (ni.toNat + 1) k = k by omega]
theorem paper_spec {ps : List Int} {lp s : Nat} {T : Int} {c : List (Nat × Nat)} {G : Gp} (h : OkP ps) (hp : G[lp]? = some (.lst (ps.map .int))) (h2 : s ≤ ps.length) (hc : Chn T ps s 0 c) : ∃ G', F__law_paper [.ref lp, .int (s : Nat), .int T] G = .ok (.tup (c.map prU)) G' ∧ Ex0 G G' := by
  rw [run__law_paper]
  have hn := h.2.1
  obtain ⟨si, hsi⟩ : ∃ si : Int, si = (s : Int) := ⟨_, rfl⟩
  rw [← hsi]
  obtain ⟨lf, hlf⟩ : ∃ lf, lf = G.length := ⟨_, rfl⟩
  obtain ⟨G1, hG1⟩ : ∃ G1, G1 = G ++ [OU.lst []] := ⟨_, rfl⟩
  have x1 : Ex0 G G1 := by rw [hG1]; exact ex0_push _ _
  have a1 : G1[lf]? = some (.lst []) := by rw [hG1, hlf]; exact push_at _ _
  have L : ∃ b k e p G2, sFor (iOfs (aCons (eVar 1) aNil) kRng1) (gNm 5) g__law_paper_2 (EnvY lp si T lf 0 none none none) G1 = .nx (EnvY lp si T lf b k e p) G2 ∧ Ex0 G G2 ∧ G2[lf]? = some (.lst (c.map prU)) := by
    refine sFor_rng1 (j := si) (G1 := G1) (fun j ev G' => ∃ (b : Nat) (k e p : Option U) (done rest : List (Nat × Nat)), ev = EnvY lp si T lf (b : Nat) k e p ∧ Ex0 G G' ∧ G'[lf]? = some (.lst (done.map prU)) ∧ done.length = j ∧ c = done ++ rest ∧ Chn T ps (s - j) b rest) (fun r => ∃ b k e p G2, r = .nx (EnvY lp si T lf b k e p) G2 ∧ Ex0 G G2 ∧ G2[lf]? = some (.lst (c.map prU))) (by simp [EnvY]) (by omega) (by omega) ⟨0, _, _, _, [], c, rfl, x1, a1, rfl, rfl, hc⟩ ?_ ?_
    · intro j hj ev G' hI
      obtain ⟨b, k0, e, p, done, rest, he, x, a, hd, hcr, hch⟩ := hI
      subst he
      obtain ⟨m, hm⟩ : ∃ m, s - j = m + 1 := ⟨s - j - 1, by omega⟩
      rw [hm] at hch
      obtain ⟨k, r2, hr, k1, hk, hch2⟩ := hch
      obtain ⟨bi, hbi⟩ : ∃ bi : Int, bi = ((b : Nat) : Int) := ⟨_, rfl⟩
      rw [← hbi]
      generalize ((j : Nat) : Int) = ji
      have ltf := (List.getElem?_eq_some_iff.mp a).1
      obtain ⟨p', G3, e3, x3⟩ := paper_in (lf := lf) (c := si) (kk := some (.int ji)) (p0 := p) h (x.at_ hp) hbi hk k1
      obtain ⟨ei, hei⟩ : ∃ ei : Int, ei = ((b + k : Nat) : Int) := ⟨_, rfl⟩
      rw [← hei] at e3
      have a3 := x3.at_ a
      have ap : mAppend (.ref lf) [.tup [.int bi, .int ei]] G3 = .ok .non (G3.set lf (.lst ((done ++ [(b, b + k)]).map prU))) := by
        rw [mAppend_ref a3 (by rw [List.length_map]; omega), List.map_append, hbi, hei]; rfl
      have il := isLst_ref a3
      have fine : (gNm 5 (.int ji) (EnvY lp si T lf bi k0 e p) G').andThen (EnvY lp si T lf bi k0 e p) (fun env1 G1 => g__law_paper_2 env1 G1) = .nx (EnvY lp si T lf (ei - 1) (some (.int ji)) (some (.int ei)) p') (G3.set lf (.lst ((done ++ [(b, b + k)]).map prU))) := by
        rw [gNm_, r_then_ok]
        show g__law_paper_2 (EnvY lp si T lf bi (some (.int ji)) e p) G' = _
        unfold g__law_paper_2
        rw [seq_nx (e' := EnvY lp si T lf bi (some (.int ji)) (some (.int (bi + 1))) p) (G' := G') (by simp [EnvY]), seq_nx e3]
        simp [EnvY, eMeth_, il, ap]
      rw [fine]
      refine ⟨b + k - 1, _, _, _, done ++ [(b, b + k)], r2, by rw [show ((b + k - 1 : Nat) : Int) = ei - 1 by omega], ex0_set (x.trans x3) (by omega) _, set_get a3, by simp [hd], by rw [hcr, hr]; simp, by rw [show s - (j + 1) = m by omega]; exact hch2⟩
    · intro ev G' hI
      obtain ⟨b, k0, e, p, done, rest, he, x, a, hd, hcr, hch⟩ := hI
      subst he
      rw [show s - si.toNat = 0 by omega] at hch
      have hr : rest = [] := hch
      rw [hr, List.append_nil] at hcr
      rw [← hcr] at a
      exact ⟨_, _, _, _, G', rfl, x, a⟩
  obtain ⟨b, k, e, p, G2, L, x2, a2⟩ := L
  have bt := bTuple_seq (seqU_of a2)
  refine ⟨G2, ?_, x2⟩
  unfold g__law_paper
  rw [seq_nx (e' := [some (.ref lp), some (.int si), some (.int T), some (.ref lf), none, none, none, none]) (G' := G1) (by simp [hG1, hlf]), seq_nx (e' := EnvY lp si T lf 0 none none none) (G' := G1) (by simp [EnvY]), seq_nx L]
  simp [EnvY, bt]
end K02

set_option Elab.async false
set_option linter.all false
set_option maxRecDepth 100000
set_option maxHeartbeats 4000000
set_option autoImplicit false
namespace K02
open PySem PySem.Spec L2 FL

/-! ### loops that end early with False -/
theorem for_all {fi : Ev → Gp → R Src} {gf : U → Ev → Gp → R Ev} {body : Ev → Gp → SR} {env : Ev} {G G1 : Gp} {src : Src} {xs : List U} (I : Nat → Ev → Gp → Prop) (Q : Nat → Prop) (J : Gp → Prop) (hf : fi env G = .ok src G1) (hs : xs.length < src.fuel ∧ ∀ i env G, i ≤ xs.length → I i env G → src.at_ i G = some xs[i]?) (h0 : I 0 env G1)
    (step : ∀ (i : Nat) (hi : i < xs.length) (env : Ev) (G : Gp), I i env G → (Q i ∧ ∃ e' G', (gf xs[i] env G).andThen env (fun env1 G1 => body env1 G1) = .nx e' G' ∧ I (i + 1) e' G') ∨ (¬ Q i ∧ ∃ G', (gf xs[i] env G).andThen env (fun env1 G1 => body env1 G1) = .ret (.bl false) G' ∧ J G')) :
    ((∀ i, i < xs.length → Q i) ∧ ∃ e' G', sFor fi gf body env G = .nx e' G' ∧ I xs.length e' G') ∨ (¬ (∀ i, i < xs.length → Q i) ∧ ∃ G', sFor fi gf body env G = .ret (.bl false) G' ∧ J G') := by
  refine sFor_post (src := src) (xs := xs) (G1 := G1) (fun i e G => I i e G ∧ ∀ j, j < i → Q j) (fun r => ((∀ i, i < xs.length → Q i) ∧ ∃ e' G', r = .nx e' G' ∧ I xs.length e' G') ∨ (¬ (∀ i, i < xs.length → Q i) ∧ ∃ G', r = .ret (.bl false) G' ∧ J G')) hf ⟨hs.1, fun i e G h hI => hs.2 i e G h hI.1⟩ ⟨h0, fun j h => absurd h (Nat.not_lt_zero j)⟩ ?_ ?_
  · intro i hi e G2 hI
    rcases step i hi e G2 hI.1 with ⟨hq, e', G', h1, h2⟩ | ⟨hq, G', h1, h2⟩
    · rw [h1]
      refine ⟨h2, fun j hj => ?_⟩
      by_cases c : j = i
      · rw [c]; exact hq
      · exact hI.2 j (by omega)
    · rw [h1]
      exact Or.inr ⟨fun h => hq (h i hi), G', rfl, h2⟩
  · intro e G2 hI
    exact Or.inl ⟨hI.2, e, G2, rfl, hI.1⟩
theorem for_all_tup {f : Ev → Gp → R U} {gf : U → Ev → Gp → R Ev} {body : Ev → Gp → SR} {env : Ev} {G G1 : Gp} {xs : List U} (I : Nat → Ev → Gp → Prop) (Q : Nat → Prop) (J : Gp → Prop) (hf : f env G = .ok (.tup xs) G1) (h0 : I 0 env G1)
    (step : ∀ (i : Nat) (hi : i < xs.length) (env : Ev) (G : Gp), I i env G → (Q i ∧ ∃ e' G', (gf xs[i] env G).andThen env (fun env1 G1 => body env1 G1) = .nx e' G' ∧ I (i + 1) e' G') ∨ (¬ Q i ∧ ∃ G', (gf xs[i] env G).andThen env (fun env1 G1 => body env1 G1) = .ret (.bl false) G' ∧ J G')) :
    ((∀ i, i < xs.length → Q i) ∧ ∃ e' G', sFor (iOf f kSeq) gf body env G = .nx e' G' ∧ I xs.length e' G') ∨ (¬ (∀ i, i < xs.length → Q i) ∧ ∃ G', sFor (iOf f kSeq) gf body env G = .ret (.bl false) G' ∧ J G') :=
  for_all I Q J (iOf_ok hf rfl) gives_items h0 step
theorem for_all_rng {fa : Ev → Gp → R (List U)} {gf : U → Ev → Gp → R Ev} {body : Ev → Gp → SR} {env : Ev} {G G1 : Gp} {j : Int} {n : Nat} (I : Nat → Ev → Gp → Prop) (Q : Nat → Prop) (J : Gp → Prop) (hf : fa env G = .ok [.int j] G1) (hj : j = (n : Int)) (hn : n < 1000000) (h0 : I 0 env G1)
    (step : ∀ (i : Nat) (hi : i < n) (env : Ev) (G : Gp), I i env G → (Q i ∧ ∃ e' G', (gf (.int (i : Nat)) env G).andThen env (fun env1 G1 => body env1 G1) = .nx e' G' ∧ I (i + 1) e' G') ∨ (¬ Q i ∧ ∃ G', (gf (.int (i : Nat)) env G).andThen env (fun env1 G1 => body env1 G1) = .ret (.bl false) G' ∧ J G')) :
    ((∀ i, i < n → Q i) ∧ ∃ e' G', sFor (iOfs fa kRng1) gf body env G = .nx e' G' ∧ I n e' G') ∨ (¬ (∀ i, i < n → Q i) ∧ ∃ G', sFor (iOfs fa kRng1) gf body env G = .ret (.bl false) G' ∧ J G') := by
  obtain ⟨src, e, g⟩ := gives_rng1 (I := I) (j := j) (by omega) (by omega) (G := G1)
  have hl : (rng 0 j.toNat).length = n := by rw [rng_len]; omega
  have := for_all (xs := rng 0 j.toNat) I Q J (iOfs_ok hf e) g h0 (fun i hi env G hI => by
    rw [rng_get, show (0 : Int) + ((i : Nat) : Int) = ((i : Nat) : Int) by omega]
    exact step i (by omega) env G hI)
  rw [hl] at this
  exact this

/-! ### values of all kinds -/
def NotT (x : U) (G : Gp) : Prop := (noRef x ∧ ∀ ys, x ≠ .tup ys) ∨ ∃ l xs, x = .ref l ∧ 0 < l ∧ G[l]? = some (.lst xs)
theorem NotT.is {x : U} {G : Gp} (h : NotT x G) : isRes tbTup x G = .ok (.bl false) G := by
  rcases h with ⟨h1, h2⟩ | ⟨l, xs, rfl, _, e⟩
  · cases x with
    | tup ys => exact absurd rfl (h2 ys)
    | ref l => exact absurd rfl (h1 l)
    | _ => exact isRes_of (tyN_of h1) rfl
  · exact isRes_of (n := "list") (by simp only [tyN, e]) rfl
theorem NotT.ex {x : U} {G G' : Gp} (h : NotT x G) (e : Ext G G') : NotT x G' := by
  rcases h with h | ⟨l, xs, h1, h2, h3⟩
  · exact Or.inl h
  · exact Or.inr ⟨l, xs, h1, h2, e.at_ h2 h3⟩
theorem NotT.nt {x : U} {G : Gp} (h : NotT x G) (ys : List U) : x ≠ .tup ys := by
  rcases h with h | ⟨l, xs, h1, _⟩
  · exact h.2 ys
  · rw [h1]; exact fun e => nomatch e
def RowG (x : U) (G : Gp) : Prop := (∃ ys, x = .tup ys ∧ ys.length ≤ 1000 ∧ ∀ y ∈ ys, noRef y) ∨ NotT x G
def ValG (u : U) (G : Gp) : Prop := (∃ xs, u = .tup xs ∧ xs.length ≤ 1000 ∧ ∀ x ∈ xs, RowG x G) ∨ NotT u G
theorem RowG.ex {x : U} {G G' : Gp} (h : RowG x G) (e : Ext G G') : RowG x G' := by
  rcases h with h | h
  · exact Or.inl h
  · exact Or.inr (h.ex e)
theorem ValG.ex {x : U} {G G' : Gp} (h : ValG x G) (e : Ext G G') : ValG x G' := by
  rcases h with ⟨xs, h1, h2, h3⟩ | h
  · exact Or.inl ⟨xs, h1, h2, fun x hx => (h3 x hx).ex e⟩
  · exact Or.inr (h.ex e)

/-! ### the judges -/
def sndOf : U → Int
  | .tup [_, .int e] => e
  | _ => 0
def prevE (xs : List U) : Nat → Int
  | 0 => 1
  | i + 1 => sndOf (xs.getD i .non)
/-- a pair within the row -/
def PairIn (ps : List Int) (T : Int) (x : U) : Prop := ∃ b e : Int, x = .tup [.int b, .int e] ∧ 0 ≤ b ∧ b < e ∧ e ≤ (ps.length : Int) ∧ T ≤ (cutU ps (some b) (some e)).sum
def fstOf : U → Int
  | .tup [.int b, _] => b
  | _ => 0
def PairOK (ps : List Int) (T a : Int) (x : U) : Prop := PairIn ps T x ∧ a - 1 ≤ fstOf x
def Judge (ps : List Int) (s : Nat) (T : Int) (u : U) : Prop := ∃ xs, u = .tup xs ∧ xs.length = s ∧ ∀ i, i < xs.length → ∃ x, xs[i]? = some x ∧ PairOK ps T (prevE xs i) x
theorem pair_in {ps : List Int} {T : Int} {x : U} {G : Gp} (hr : RowG x G) : ∃ b, F_is_pair_of [.tup (ps.map .int), x, .int T] G = .ok (.bl b) G ∧ (b = true ↔ PairIn ps T x) := by
  rw [run_is_pair_of]
  obtain ⟨ni, hni⟩ : ∃ ni : Int, ni = (ps.length : Int) := ⟨_, rfl⟩
  obtain ⟨rv, hrv⟩ : ∃ rv, rv = U.tup (ps.map .int) := ⟨_, rfl⟩
  have bl0 : bLen [rv] G = .ok (.int ni) G := by rw [hrv, bLen_tup, List.length_map, hni]
  have slr : ∀ lo hi, gSl rv lo hi G = .ok (.tup ((cutU ps lo hi).map .int)) G := fun lo hi => by rw [hrv]; exact sl_tup G
  rw [← hrv]
  rcases hr with ⟨ys, rfl, hyl, hy⟩ | hr
  · have it : isRes tbTup (.tup ys) G = .ok (.bl true) G := rfl
    by_cases h2 : ys.length = 2
    · match ys, h2, hy, it with
      | [y0, y1], _, hy, it =>
        have n0 := hy y0 (by simp)
        have n1 := hy y1 (by simp)
        have bl1 : bLen [.tup [y0, y1]] G = .ok (.int 2) G := bLen_tup _
        have ft := is_from_to_spec n0 0 (ni - 1) G
        have ii := is_integer_spec n1 G
        have noP : (∀ b, y0 ≠ .int b) ∨ (∀ e, y1 ≠ .int e) → ¬ PairIn ps T (.tup [y0, y1]) := fun h ⟨b, e, h1, _⟩ => by
          injection h1 with h1
          injection h1 with h3 h4
          injection h4 with h4 _
          rcases h with h | h
          · exact h b h3
          · exact h e h4
        cases y0 with
        | int b =>
          cases y1 with
          | int e =>
            have ii2 : isI (.int e) = true := rfl
            rw [ii2] at ii
            by_cases c1 : 0 ≤ b ∧ b ≤ ni - 1
            · have hin : inR (.int b) 0 (ni - 1) = true := by simp [inR, c1.1, c1.2]
              rw [hin] at ft
              have sl := slr (some b) (some e)
              have sm := sum_tup (ns := cutU ps (some b) (some e)) G
              have hP : PairIn ps T (.tup [.int b, .int e]) ↔ (b < e ∧ e ≤ ni ∧ T ≤ (cutU ps (some b) (some e)).sum) := by
                constructor
                · rintro ⟨b', e', h1, h2, h3, h4, h5⟩
                  cases h1
                  exact ⟨h3, by omega, h5⟩
                · rintro ⟨h3, h4, h5⟩
                  exact ⟨b, e, rfl, c1.1, h3, by omega, h5⟩
              by_cases c2 : b < e
              · by_cases c3 : e ≤ ni
                · refine ⟨decide (T ≤ (cutU ps (some b) (some e)).sum), ?_, by rw [hP]; simp [c2, c3]⟩
                  simp [g_is_pair_of, it, bl1, bl0, ft, ii, c2, c3, sl, sm]
                · refine ⟨false, ?_, ⟨fun z => (nomatch z), fun z => absurd (hP.mp z).2.1 c3⟩⟩
                  simp [g_is_pair_of, it, bl1, bl0, ft, ii, c2, c3]
              · refine ⟨false, ?_, ⟨fun z => (nomatch z), fun z => absurd (hP.mp z).1 c2⟩⟩
                simp [g_is_pair_of, it, bl1, bl0, ft, ii, c2]
            · have hin : inR (.int b) 0 (ni - 1) = false := by
                by_cases z : 0 ≤ b
                · simp [inR, z]; omega
                · simp [inR, z]
              rw [hin] at ft
              refine ⟨false, ?_, ⟨fun z => (nomatch z), fun ⟨b', e', h1, h2, h3, h4, h5⟩ => ?_⟩⟩
              · simp [g_is_pair_of, it, bl1, bl0, ft]
              · cases h1
                exact absurd ⟨h2, by omega⟩ c1
          | _ =>
            refine ⟨false, ?_, ⟨fun z => (nomatch z), fun z => absurd z (noP (Or.inr fun e h => nomatch h))⟩⟩
            by_cases c : inR (.int b) 0 (ni - 1) = true
            · rw [c] at ft
              simp [g_is_pair_of, it, bl1, bl0, ft, ii, isI]
            · have c : inR (.int b) 0 (ni - 1) = false := by simpa using c
              rw [c] at ft
              simp [g_is_pair_of, it, bl1, bl0, ft]
        | _ =>
          refine ⟨false, ?_, ⟨fun z => (nomatch z), fun z => absurd z (noP (Or.inl fun e h => nomatch h))⟩⟩
          simp [g_is_pair_of, it, bl1, bl0, ft, inR]
    · have bl1 : bLen [.tup ys] G = .ok (.int (ys.length : Nat)) G := bLen_tup _
      obtain ⟨yi, hyi⟩ : ∃ yi : Int, yi = (ys.length : Int) := ⟨_, rfl⟩
      rw [← hyi] at bl1
      have hne : yi ≠ 2 := by omega
      have hne2 : ¬ ((ys.length : Nat) : Int) = 2 := by omega
      refine ⟨false, ?_, ⟨fun z => (nomatch z), fun ⟨b, e, h1, _⟩ => ?_⟩⟩
      · simp [g_is_pair_of, it, bl1, hne, hne2]
      · cases h1
        exact absurd rfl h2
  · have it := hr.is
    refine ⟨false, ?_, ⟨fun z => (nomatch z), fun ⟨b, e, h1, _⟩ => absurd h1 (hr.nt _)⟩⟩
    simp [g_is_pair_of, it]
theorem prevE_succ {xs : List U} {i : Nat} {b e : Int} (h : xs[i]? = some (.tup [.int b, .int e])) : prevE xs (i + 1) = e := by
  show sndOf (xs.getD i .non) = e
  rw [List.getD_eq_getElem?_getD, h]
  rfl
theorem holds_gen {ps : List Int} {w u : U} {s : Nat} {si T : Int} {G : Gp} (h : OkP ps) (h1 : 1 ≤ s) (h2 : s ≤ ps.length) (hsi : si = (s : Int)) (hw : isSeq w (ps.map .int) G) (hv : ValG u G) : ∃ b, F_top_paper_holds [w, .int si, .int T, u] G = .ok (.bl b) G ∧ (b = true ↔ Judge ps s T u) := by
  rw [run_top_paper_holds]
  have ck := cut_ok hw h (s := si) (by omega) (by omega)
  rcases hv with ⟨xs, rfl, hxl, hx⟩ | hv
  · have it : isRes tbTup (.tup xs) G = .ok (.bl true) G := rfl
    have bl : bLen [.tup xs] G = .ok (.int (xs.length : Nat)) G := bLen_tup _
    obtain ⟨xi, hxi⟩ : ∃ xi : Int, xi = (xs.length : Int) := ⟨_, rfl⟩
    rw [← hxi] at bl
    obtain ⟨tv, htv⟩ : ∃ tv, tv = U.tup xs := ⟨_, rfl⟩
    rw [← htv] at it bl
    by_cases hl : xs.length = s
    · have he : xi = si := by omega
      let E (a : Int) (p : Option U) : Ev := [some w, some (.int si), some (.int T), some tv, some (.tup (ps.map .int)), some (.int a), p]
      have L := for_all_tup (f := eVar 3) (gf := gNm 6) (body := g_top_paper_holds_1) (env := E 1 none) (G := G) (G1 := G) (xs := xs) (fun i e G' => (∃ p, e = E (prevE xs i) p) ∧ G' = G) (fun i => ∃ x, xs[i]? = some x ∧ PairOK ps T (prevE xs i) x) (fun G' => G' = G) (by simp [E, htv]) ⟨⟨none, rfl⟩, rfl⟩ (fun i hi e G1 hI => by
        obtain ⟨⟨p, he⟩, hG⟩ := hI
        subst hG
        subst he
        have hr := hx xs[i] (List.getElem_mem hi)
        have hq : (∃ x, xs[i]? = some x ∧ PairOK ps T (prevE xs i) x) ↔ PairOK ps T (prevE xs i) xs[i] := by
          rw [List.getElem?_eq_getElem hi]
          exact ⟨fun ⟨x, e, h⟩ => by cases e; exact h, fun h => ⟨_, rfl, h⟩⟩
        rw [hq]
        have hxe : xs[i]? = some xs[i] := List.getElem?_eq_getElem hi
        generalize xs[i] = x at hr hxe
        obtain ⟨b, e1, hb⟩ := pair_in (ps := ps) (T := T) hr
        obtain ⟨a, ha⟩ : ∃ a, a = prevE xs i := ⟨_, rfl⟩
        rw [← ha]
        cases b with
        | false =>
          refine Or.inr ⟨fun z => (nomatch (hb.mpr z.1)), G1, ?_, rfl⟩
          simp [E, g_top_paper_holds_1, e1]
        | true =>
          obtain ⟨b, e, hxx, hb0, hbe, hen, hsm⟩ := hb.mp rfl
          subst hxx
          have i0 : ∀ G', gIdx (.tup [.int b, .int e]) (.int 0) G' = .ok (.int b) G' := fun G' => gIdx_tup rfl
          have i1 : ∀ G', gIdx (.tup [.int b, .int e]) (.int 1) G' = .ok (.int e) G' := fun G' => gIdx_tup rfl
          by_cases c : b < a - 1
          · refine Or.inr ⟨fun z => ?_, G1, ?_, rfl⟩
            · have : a - 1 ≤ b := z.2
              omega
            · simp [E, g_top_paper_holds_1, e1, i0, c]
          · refine Or.inl ⟨⟨hb.mp rfl, by show a - 1 ≤ b; omega⟩, E e (some (.tup [.int b, .int e])), G1, ?_, ⟨_, by rw [prevE_succ hxe]⟩, rfl⟩
            simp [E, g_top_paper_holds_1, e1, i0, i1, c])
      have s0 : g_top_paper_holds [some w, some (.int si), some (.int T), some tv, none, none, none] G = sSeq (sFor (iOf (eVar 3) kSeq) (gNm 6) g_top_paper_holds_1) (sRet (eC (.bl true))) (E 1 none) G := by
        unfold g_top_paper_holds
        rw [seq_nx (e' := [some w, some (.int si), some (.int T), some tv, some (.tup (ps.map .int)), none, none]) (G' := G) (by simp [ck]), seq_nx (e' := [some w, some (.int si), some (.int T), some tv, some (.tup (ps.map .int)), none, none]) (G' := G) (by simp [it, bl, he]), seq_nx (e' := E 1 none) (G' := G) (by simp [E])]
      rw [← htv, s0]
      rcases L with ⟨hq, e', G', e1, _, hG⟩ | ⟨hq, G', e1, hG⟩
      · subst hG
        rw [seq_nx e1]
        refine ⟨true, by simp, ⟨fun _ => ⟨xs, htv, hl, hq⟩, fun _ => rfl⟩⟩
      · subst hG
        rw [sSeq_, e1]
        refine ⟨false, by simp, ⟨fun z => (nomatch z), fun ⟨ys, h1, h2, h3⟩ => ?_⟩⟩
        have : U.tup xs = U.tup ys := htv.symm.trans h1
        cases this
        exact absurd h3 hq
    · have he : xi ≠ si := by omega
      refine ⟨false, ?_, ⟨fun z => (nomatch z), fun ⟨ys, h1, h2, h3⟩ => ?_⟩⟩
      · rw [← htv]
        simp [g_top_paper_holds, ck, it, bl, he]
      · cases h1
        exact absurd h2 hl
  · have it := hv.is
    refine ⟨false, ?_, ⟨fun z => (nomatch z), fun ⟨ys, h1, _⟩ => absurd h1 (hv.nt ys)⟩⟩
    simp [g_top_paper_holds, ck, it]
theorem lint_spec {v : U} (h : noRef v) (G : Gp) : F__law_is_integer [v] G = .ok (.bl (isI v)) G := by
  rw [run__law_is_integer]
  simp only [g__law_is_integer, sRet_, eAnd_, eNot_, eIs_, eVar_, List.getElem?_cons_zero, r_bind_ok, isRes_of (tyN_of h) (lkInt v), isRes_of (tyN_of h) (lkBool v), asB_ok]
  cases v <;> simp [isI, isIB, isB]
theorem lholds_gen {ps : List Int} {lp : Nat} {u : U} {s : Nat} {si T : Int} {G : Gp} (hp : G[lp]? = some (.lst (ps.map .int))) (hsi : si = (s : Int)) (hv : ValG u G) : ∃ b G', F__law_holds [.ref lp, .int si, .int T, u] G = .ok (.bl b) G' ∧ Ex0 G G' ∧ (b = true ↔ Judge ps s T u) := by
  rw [run__law_holds]
  obtain ⟨ni, hni⟩ : ∃ ni : Int, ni = (ps.length : Int) := ⟨_, rfl⟩
  rcases hv with ⟨xs, rfl, hxl, hx⟩ | hv
  · have it : isRes tbTup (.tup xs) G = .ok (.bl true) G := rfl
    have bl : bLen [.tup xs] G = .ok (.int (xs.length : Nat)) G := bLen_tup _
    obtain ⟨xi, hxi⟩ : ∃ xi : Int, xi = (xs.length : Int) := ⟨_, rfl⟩
    rw [← hxi] at bl
    obtain ⟨tv, htv⟩ : ∃ tv, tv = U.tup xs := ⟨_, rfl⟩
    rw [← htv] at it bl
    by_cases hl : xs.length = s
    · have he : xi = si := by omega
      let E (a : Int) (p : Option U) : Ev := [some (.ref lp), some (.int si), some (.int T), some tv, some (.int a), p]
      have L := for_all_tup (f := eVar 3) (gf := gNm 5) (body := g__law_holds_1) (env := E 1 none) (G := G) (G1 := G) (xs := xs) (fun i e G' => (∃ p, e = E (prevE xs i) p) ∧ Ex0 G G') (fun i => ∃ x, xs[i]? = some x ∧ PairOK ps T (prevE xs i) x) (fun G' => Ex0 G G') (by simp [E, htv]) ⟨⟨none, rfl⟩, Ex0.refl _⟩ (fun i hi e G1 hI => by
        obtain ⟨⟨p, he⟩, x1⟩ := hI
        subst he
        have hr := (hx xs[i] (List.getElem_mem hi)).ex x1.ext
        have hq : (∃ x, xs[i]? = some x ∧ PairOK ps T (prevE xs i) x) ↔ PairOK ps T (prevE xs i) xs[i] := by
          rw [List.getElem?_eq_getElem hi]
          exact ⟨fun ⟨x, e, h⟩ => by cases e; exact h, fun h => ⟨_, rfl, h⟩⟩
        rw [hq]
        have hxe : xs[i]? = some xs[i] := List.getElem?_eq_getElem hi
        generalize xs[i] = x at hr hxe
        obtain ⟨a, ha⟩ : ∃ a, a = prevE xs i := ⟨_, rfl⟩
        rw [← ha]
        have hp1 := x1.at_ hp
        have bl0 : bLen [.ref lp] G1 = .ok (.int ni) G1 := by rw [bLen_seq (seqU_of hp1), List.length_map, hni]
        rcases hr with ⟨ys, rfl, hyl, hy⟩ | hr
        · have itr : isRes tbTup (.tup ys) G1 = .ok (.bl true) G1 := rfl
          by_cases h2 : ys.length = 2
          · match ys, h2, hy, itr, hxe with
            | [y0, y1], _, hy, itr, hxe =>
              have n0 := hy y0 (by simp)
              have n1 := hy y1 (by simp)
              have bl1 : bLen [.tup [y0, y1]] G1 = .ok (.int 2) G1 := bLen_tup _
              have i0 : ∀ G', gIdx (.tup [y0, y1]) (.int 0) G' = .ok y0 G' := fun G' => gIdx_tup rfl
              have i1 : ∀ G', gIdx (.tup [y0, y1]) (.int 1) G' = .ok y1 G' := fun G' => gIdx_tup rfl
              have l0 := lint_spec n0 G1
              have l1 := lint_spec n1 G1
              have noP : (∀ b, y0 ≠ .int b) ∨ (∀ e, y1 ≠ .int e) → ¬ PairOK ps T a (.tup [y0, y1]) := fun h ⟨⟨b, e, h1, _⟩, _⟩ => by
                injection h1 with h1
                injection h1 with h3 h4
                injection h4 with h4 _
                rcases h with h | h
                · exact h b h3
                · exact h e h4
              cases y0 with
              | int b =>
                cases y1 with
                | int e =>
                  have l02 : isI (.int b) = true := rfl
                  have l12 : isI (.int e) = true := rfl
                  rw [l02] at l0
                  rw [l12] at l1
                  by_cases c1 : b < 0
                  · refine Or.inr ⟨fun ⟨⟨b', e', h1, h2, _⟩, _⟩ => ?_, G1, ?_, x1⟩
                    · cases h1; omega
                    · simp [E, g__law_holds_1, itr, bl1, i0, i1, l0, l1, c1]
                  · by_cases c2 : e ≤ b
                    · refine Or.inr ⟨fun ⟨⟨b', e', h1, h2, h3, _⟩, _⟩ => ?_, G1, ?_, x1⟩
                      · cases h1; omega
                      · simp [E, g__law_holds_1, itr, bl1, i0, i1, l0, l1, c1, c2]
                    · by_cases c3 : ni < e
                      · refine Or.inr ⟨fun ⟨⟨b', e', h1, h2, h3, h4, _⟩, _⟩ => ?_, G1, ?_, x1⟩
                        · cases h1; omega
                        · simp [E, g__law_holds_1, itr, bl1, i0, i1, l0, l1, c1, c2, bl0, c3]
                      · by_cases c4 : b < a - 1
                        · refine Or.inr ⟨fun z => ?_, G1, ?_, x1⟩
                          · have : a - 1 ≤ b := z.2
                            omega
                          · simp [E, g__law_holds_1, itr, bl1, i0, i1, l0, l1, c1, c2, bl0, c3, c4]
                        · obtain ⟨G2, sl, x2, sm⟩ := sl_ref (lo := some b) (hi := some e) hp1
                          generalize hS : (cutU ps (some b) (some e)).sum = S at sm
                          by_cases c5 : S < T
                          · refine Or.inr ⟨fun ⟨⟨b', e', h1, h2, h3, h4, h5⟩, _⟩ => ?_, G2, ?_, x1.trans x2⟩
                            · cases h1; omega
                            · simp [E, g__law_holds_1, itr, bl1, i0, i1, l0, l1, c1, c2, bl0, c3, c4, sl, sm, c5]
                          · refine Or.inl ⟨⟨⟨b, e, rfl, by omega, by omega, by omega, by omega⟩, by show a - 1 ≤ b; omega⟩, E e (some (.tup [.int b, .int e])), G2, ?_, ⟨_, by rw [prevE_succ hxe]⟩, x1.trans x2⟩
                            simp [E, g__law_holds_1, itr, bl1, i0, i1, l0, l1, c1, c2, bl0, c3, c4, sl, sm, c5]
                | _ =>
                  refine Or.inr ⟨noP (Or.inr fun e h => nomatch h), G1, ?_, x1⟩
                  simp [E, g__law_holds_1, itr, bl1, i0, i1, l0, l1, isI]
              | _ =>
                refine Or.inr ⟨noP (Or.inl fun e h => nomatch h), G1, ?_, x1⟩
                simp [E, g__law_holds_1, itr, bl1, i0, l0, isI]
          · have bl1 : bLen [.tup ys] G1 = .ok (.int (ys.length : Nat)) G1 := bLen_tup _
            obtain ⟨yi, hyi⟩ : ∃ yi : Int, yi = (ys.length : Int) := ⟨_, rfl⟩
            rw [← hyi] at bl1
            have hne : yi ≠ 2 := by omega
            have hne2 : ¬ ((ys.length : Nat) : Int) = 2 := by omega
            refine Or.inr ⟨fun ⟨⟨b, e, h1, _⟩, _⟩ => ?_, G1, ?_, x1⟩
            · cases h1
              exact absurd rfl h2
            · simp [E, g__law_holds_1, itr, bl1, hne, hne2]
        · have itr := hr.is
          refine Or.inr ⟨fun ⟨⟨b, e, h1, _⟩, _⟩ => absurd h1 (hr.nt _), G1, ?_, x1⟩
          simp [E, g__law_holds_1, itr])
      have s0 : g__law_holds [some (.ref lp), some (.int si), some (.int T), some tv, none, none] G = sSeq (sFor (iOf (eVar 3) kSeq) (gNm 5) g__law_holds_1) (sRet (eC (.bl true))) (E 1 none) G := by
        unfold g__law_holds
        rw [seq_nx (e' := [some (.ref lp), some (.int si), some (.int T), some tv, none, none]) (G' := G) (by simp [it, bl, he]), seq_nx (e' := E 1 none) (G' := G) (by simp [E])]
      rw [← htv, s0]
      rcases L with ⟨hq, e', G', e1, _, x1⟩ | ⟨hq, G', e1, x1⟩
      · rw [seq_nx e1]
        exact ⟨true, G', by simp, x1, ⟨fun _ => ⟨xs, htv, hl, hq⟩, fun _ => rfl⟩⟩
      · rw [sSeq_, e1]
        refine ⟨false, G', by simp, x1, ⟨fun z => (nomatch z), fun ⟨ys, h1, h2, h3⟩ => ?_⟩⟩
        have : U.tup xs = U.tup ys := htv.symm.trans h1
        cases this
        exact absurd h3 hq
    · have he : xi ≠ si := by omega
      refine ⟨false, G, ?_, Ex0.refl _, ⟨fun z => (nomatch z), fun ⟨ys, h1, h2, h3⟩ => ?_⟩⟩
      · rw [← htv]
        simp [g__law_holds, it, bl, he]
      · cases h1
        exact absurd h2 hl
  · have it := hv.is
    refine ⟨false, G, ?_, Ex0.refl _, ⟨fun z => (nomatch z), fun ⟨ys, h1, _⟩ => absurd h1 (hv.nt ys)⟩⟩
    simp [g__law_holds, it]
theorem pdn_told {x : U} (h : PDn 38 x) (z : Str) : PDn 39 (.tup [.str z, x]) := ⟨by simp, fun y hy => by
  simp only [List.mem_cons, List.not_mem_nil, or_false] at hy
  rcases hy with rfl | rfl
  · trivial
  · exact h⟩
theorem judged_spec {ps : List Int} {lp : Nat} {u : U} {s : Nat} {si T : Int} {G : Gp} (h : OkP ps) (hp : G[lp]? = some (.lst (ps.map .int))) (h1 : 1 ≤ s) (h2 : s ≤ ps.length) (hsi : si = (s : Int)) (hv : ValG u G) : ∃ G', F__law_judged [.ref lp, .int si, .int T, u] G = .ok (.bl true) G' ∧ Ex0 G G' := by
  rw [run__law_judged]
  obtain ⟨b, G1, e1, x1, hb⟩ := lholds_gen (T := T) hp hsi hv
  have p1 := x1.at_ hp
  have bl : bList [.ref lp] G1 = .ok (.ref G1.length) (G1 ++ [.lst (ps.map .int)]) := bList_seq (seqU_of p1)
  obtain ⟨G2, hG2⟩ : ∃ G2, G2 = G1 ++ [OU.lst (ps.map .int)] := ⟨_, rfl⟩
  have x2 : Ex0 G1 G2 := by rw [hG2]; exact ex0_push _ _
  have a2 : G2[G1.length]? = some (.lst (ps.map .int)) := by rw [hG2]; exact push_at _ _
  rw [← hG2] at bl
  obtain ⟨b', e2, hb'⟩ := holds_gen (T := T) h h1 h2 hsi (.inr ⟨_, rfl, a2⟩ : isSeq (.ref G1.length) (ps.map .int) G2) (hv.ex (x1.trans x2).ext)
  have hbb : b' = b := by
    have := hb'.trans hb.symm
    cases b <;> cases b' <;> simp at this ⊢
  rw [hbb] at e2
  have t2 := told_ok (w := .int 2) (by rw [called_holds]; exact e2)
  have s2 := same_spec 39 (.tup [.str "told", .bl b]) G2 (pdn_told (x := .bl b) trivial _)
  have eq : eqU G2 (.ref G1.length) (.ref lp) = some true := by rw [eqU_refs a2 (x2.at_ p1)]; simp
  refine ⟨G2, ?_, x1.trans x2⟩
  unfold g__law_judged
  rw [seq_nx (e' := [some (.ref lp), some (.int si), some (.int T), some u, some (.bl b), none]) (G' := G1) (by simp [e1]), seq_nx (e' := [some (.ref lp), some (.int si), some (.int T), some u, some (.bl b), some (.ref G1.length)]) (G' := G2) (by simp [bl])]
  simp [t2, s2, eq]
end K02

set_option Elab.async false
set_option linter.all false
set_option maxRecDepth 100000
set_option maxHeartbeats 4000000
set_option autoImplicit false
namespace K02
open PySem PySem.Spec L2 FL

/-! ### changed tables -/
theorem mPopAt_ref {G : Gp} {l : Nat} {xs : List U} {i : Int} {y : U} (h : G[l]? = some (.lst xs)) (h0 : 0 ≤ i) (h1 : i < 1000000) (hy : xs[i.toNat]? = some y) : mPopAt (.ref l) [.int i] G = .ok y (G.set l (.lst (xs.eraseIdx i.toNat))) := by
  have hl := (List.getElem?_eq_some_iff.mp hy).1
  have e : ixN xs.length i = some i.toNat := by unfold ixN; rw [if_pos h0, if_pos (by omega)]
  unfold mPopAt
  have c : -(2 ^ 63) ≤ i ∧ i < 2 ^ 63 := by omega
  simp only [if_pos c, h, e, hy]
structure Gen (G0 G : Gp) (Lr : Nat) (ls : List Nat) : Prop where
  d : Dr G
  x : Ext G0 G
  g0 : 0 < G0.length
  hL : G0.length ≤ Lr
  hl : ls.length ≤ 500
  top : G[Lr]? = some (.lst (ls.map .ref))
  row : ∀ l ∈ ls, G0.length ≤ l ∧ l ≠ Lr ∧ ∃ ys, G[l]? = some (.lst ys) ∧ ys.length ≤ 500 ∧ ∀ y ∈ ys, noRef y
theorem Gen.setRow {G0 G : Gp} {Lr l : Nat} {ls : List Nat} {ys : List U} (h : Gen G0 G Lr ls) (hl : G0.length ≤ l) (hne : l ≠ Lr) (hlt : l < G.length) (h1 : ys.length ≤ 500) (h2 : ∀ y ∈ ys, noRef y) : Gen G0 (G.set l (.lst ys)) Lr ls :=
  ⟨dr_set h.d (by have := h.g0; omega) _, ext_set h.x hl _, h.g0, h.hL, h.hl, by rw [List.getElem?_set_ne hne]; exact h.top, fun q hq => by
    obtain ⟨a, b, zs, c, d, e⟩ := h.row q hq
    refine ⟨a, b, ?_⟩
    by_cases z : q = l
    · subst z
      exact ⟨ys, set_get c, h1, h2⟩
    · exact ⟨zs, by rw [List.getElem?_set_ne (Ne.symm z)]; exact c, d, e⟩⟩
theorem Gen.setRows {G0 G : Gp} {Lr : Nat} {ls ms : List Nat} (h : Gen G0 G Lr ls) (hm : ms.length ≤ 500) (hs : ∀ l ∈ ms, l ∈ ls ∨ (G0.length ≤ l ∧ l ≠ Lr ∧ ∃ ys, G[l]? = some (.lst ys) ∧ ys.length ≤ 500 ∧ ∀ y ∈ ys, noRef y)) : Gen G0 (G.set Lr (.lst (ms.map .ref))) Lr ms :=
  ⟨dr_set h.d (by have := h.g0; have := h.hL; omega) _, ext_set h.x h.hL _, h.g0, h.hL, hm, set_get h.top, fun q hq => by
    have : G0.length ≤ q ∧ q ≠ Lr ∧ ∃ ys, G[q]? = some (.lst ys) ∧ ys.length ≤ 500 ∧ ∀ y ∈ ys, noRef y := by
      rcases hs q hq with z | z
      · exact h.row q z
      · exact z
    obtain ⟨a, b, zs, c, d, e⟩ := this
    exact ⟨a, b, zs, by rw [List.getElem?_set_ne (Ne.symm b)]; exact c, d, e⟩⟩
theorem Gen.ex {G0 G G' : Gp} {Lr : Nat} {ls : List Nat} (h : Gen G0 G Lr ls) (x : Ext G G') (d : Dr G') : Gen G0 G' Lr ls :=
  ⟨d, h.x.trans x, h.g0, h.hL, h.hl, x.at_ (by have := h.g0; have := h.hL; omega) h.top, fun q hq => by
    obtain ⟨a, b, zs, c, e⟩ := h.row q hq
    exact ⟨a, b, zs, x.at_ (by have := h.g0; omega) c, e⟩⟩
def EnvC (tv : U) (k : Int) (Lr : Nat) (a : Int) (rw i : Nat) (t : Option U) : Ev := [some (.ref 0), some tv, some (.int (i : Nat)), some (.int k), some (.ref Lr), some (.int a), some (.ref rw), t, none]
def cont (G : Gp) (l : Nat) : List U := match G[l]? with
  | some (.lst ys) => ys
  | _ => []
/-- the tuples of the rows -/
theorem told_comp {G0 G : Gp} {Lr : Nat} {ls : List Nat} {tv : U} {k a : Int} {rw i : Nat} {t : Option U} (h : Gen G0 G Lr ls) : ∃ G', eComp [8] (iOf (eVar 4) kSeq) (gNm 8) tYesB (eCall bTuple (aCons (eVar 8) aNil)) (EnvC tv k Lr a rw i t) G = .ok (.ref G.length) G' ∧ Ex0 G G' ∧ G'[G.length]? = some (.lst (ls.map fun l => U.tup (cont G l))) := by
  obtain ⟨src, c1, hs⟩ := srcx_ref h.top
  obtain ⟨G', e, x, at'⟩ := comp_pure (own := [8]) (fi := iOf (eVar 4) kSeq) (G := G) (G1 := G) (gf := gNm 8) (ft := tYesB) (fe := eCall bTuple (aCons (eVar 8) aNil)) (env := EnvC tv k Lr a rw i t) (ys := ls) (g := U.ref) (fun _ => true) (fun l => U.tup (cont G l)) (iOf_ok (by simp [EnvC]) c1) hs (by have := h.hl; omega) (fun j hj G2 x => by
    obtain ⟨_, _, ys, c, _, _⟩ := h.row ls[j] (List.getElem_mem hj)
    generalize ls[j] = l at c
    refine ⟨_, rfl, rfl, fun _ => ?_⟩
    have bt := bTuple_seq (seqU_of (x.at_ c))
    have hc : cont G l = ys := by unfold cont; rw [c]
    rw [hc]
    simp [EnvC, wipeE, bt])
  refine ⟨G', e, x, ?_⟩
  have e3 : ls.filter (fun _ => true) = ls := List.filter_eq_self.mpr fun _ _ => rfl
  rw [e3] at at'
  exact at'
theorem Gen.rowG {G0 G G' : Gp} {Lr : Nat} {ls : List Nat} (h : Gen G0 G Lr ls) {l : Nat} (hl : l ∈ ls) : RowG (.tup (cont G l)) G' := by
  obtain ⟨_, _, ys, c, d, e⟩ := h.row l hl
  have hc : cont G l = ys := by unfold cont; rw [c]
  rw [hc]
  exact Or.inl ⟨ys, rfl, by omega, e⟩
def TL : Ev → Gp → SR := sSeq (sAsg (eComp [8] (iOf (eVar 4) kSeq) (gNm 8) tYesB (eCall bTuple (aCons (eVar 8) aNil))) (gNm 7)) (sSeq (sIf (bVal (eBin gEq (eVar 3) (eC (.int 15)))) g__law_changed_13 sNil) (sRet (eCall bTuple (aCons (eVar 7) aNil))))
def Res (G0 : Gp) (r : SR) : Prop := ∃ u G', r = .ret u G' ∧ ValG u G' ∧ Dr G' ∧ Ext G0 G'
theorem fin_gen {G0 G : Gp} {Lr : Nat} {ls : List Nat} {tv : U} {k a : Int} {rw i : Nat} {t : Option U} (h : Gen G0 G Lr ls) (hk : k ≠ 15) : Res G0 (TL (EnvC tv k Lr a rw i t) G) := by
  obtain ⟨G', e, x, at'⟩ := told_comp (tv := tv) (k := k) (a := a) (rw := rw) (i := i) (t := t) h
  have bt := bTuple_seq (seqU_of at')
  refine ⟨.tup (ls.map fun l => U.tup (cont G l)), G', ?_, Or.inl ⟨_, rfl, by rw [List.length_map]; have := h.hl; omega, fun y hy => ?_⟩, x.dr h.d, h.x.trans x.ext⟩
  · unfold TL
    rw [seq_nx (e' := EnvC tv k Lr a rw i (some (.ref G.length))) (G' := G') (by rw [sAsg_, e]; rfl)]
    simp [EnvC, hk, bt]
  · obtain ⟨l, hl, rfl⟩ := List.mem_map.mp hy
    exact h.rowG hl
theorem fin_15 {G0 G : Gp} {Lr : Nat} {ls : List Nat} {tv : U} {a : Int} {r i : Nat} {t : Option U} {zs : List U} (h : Gen G0 G Lr ls) (ha : 0 ≤ a) (ha2 : a < ls.length) (hr : G[r]? = some (.lst zs)) : Res G0 (TL (EnvC tv 15 Lr a r i t) G) := by
  obtain ⟨G', e, x, at'⟩ := told_comp (tv := tv) (k := 15) (a := a) (rw := r) (i := i) (t := t) h
  have bl : bList [.ref r] G' = .ok (.ref G'.length) (G' ++ [.lst zs]) := bList_seq (seqU_of (x.at_ hr))
  obtain ⟨G2, hG2⟩ : ∃ G2, G2 = G' ++ [OU.lst zs] := ⟨_, rfl⟩
  rw [← hG2] at bl
  have x2 : Ex0 G' G2 := by rw [hG2]; exact ex0_push _ _
  have n2 : G2[G'.length]? = some (.lst zs) := by rw [hG2]; exact push_at _ _
  have at2 := x2.at_ at'
  have su := setU_ref (G := G2) (v := .ref G'.length) at2 ha (by rw [List.length_map]; exact ha2)
  obtain ⟨G3, hG3⟩ : ∃ G3, G3 = G2.set G.length (.lst ((ls.map fun l => U.tup (cont G l)).set a.toNat (.ref G'.length))) := ⟨_, rfl⟩
  rw [← hG3] at su
  have at3 : G3[G.length]? = some (.lst ((ls.map fun l => U.tup (cont G l)).set a.toNat (.ref G'.length))) := by rw [hG3]; exact set_get at2
  have hGl := (List.getElem?_eq_some_iff.mp at').1
  have n3 : G3[G'.length]? = some (.lst zs) := by rw [hG3, List.getElem?_set_ne (by omega)]; exact n2
  have x3 : Ex0 G G3 := by rw [hG3]; exact ex0_set (x.trans x2) (Nat.le_refl _) _
  have bt := bTuple_seq (seqU_of at3)
  refine ⟨.tup ((ls.map fun l => U.tup (cont G l)).set a.toNat (.ref G'.length)), G3, ?_, Or.inl ⟨_, rfl, by rw [List.length_set, List.length_map]; have := h.hl; omega, fun y hy => ?_⟩, x3.dr h.d, h.x.trans x3.ext⟩
  · unfold TL
    rw [seq_nx (e' := EnvC tv 15 Lr a r i (some (.ref G.length))) (G' := G') (by rw [sAsg_, e]; rfl), seq_nx (e' := EnvC tv 15 Lr a r i (some (.ref G.length))) (G' := G3) (by simp [EnvC, g__law_changed_13, bl, su])]
    simp [EnvC, bt]
  · rcases List.mem_or_eq_of_mem_set hy with hy | hy
    · obtain ⟨l, hl, rfl⟩ := List.mem_map.mp hy
      exact h.rowG hl
    · rw [hy]
      exact Or.inr (Or.inr ⟨_, _, rfl, by omega, n3⟩)
theorem fin_14 {G0 G : Gp} {Lr : Nat} {ls : List Nat} {tv : U} {k a : Int} {r i : Nat} {t : Option U} (h : Gen G0 G Lr ls) : Res G0 (g__law_changed_12 (EnvC tv k Lr a r i t) G) := by
  obtain ⟨G', e, x, at'⟩ := told_comp (tv := tv) (k := k) (a := a) (rw := r) (i := i) (t := t) h
  refine ⟨.ref G.length, G', ?_, Or.inr (Or.inr ⟨_, _, rfl, h.d.len, at'⟩), x.dr h.d, h.x.trans x.ext⟩
  unfold g__law_changed_12
  rw [sRet_, e]
  rfl
/-! which of the ifs -/
theorem skip_eq {env : Ev} {G : Gp} {k j : Int} {X : Ev → Gp → SR} (h : env[3]? = some (some (.int k))) (hne : k ≠ j) : sIf (bVal (eBin gEq (eVar 3) (eC (.int j)))) X sNil env G = .nx env G := by simp [h, hne]
theorem take_eq {env : Ev} {G : Gp} {k j : Int} {X : Ev → Gp → SR} {r : SR} (h : env[3]? = some (some (.int k))) (he : k = j) (hr : X env G = r) : sIf (bVal (eBin gEq (eVar 3) (eC (.int j)))) X sNil env G = r := by
  rw [← hr]
  simp [h, he]
theorem skip_12 {env : Ev} {G : Gp} {k a : Int} {X : Ev → Gp → SR} (h : env[3]? = some (some (.int k))) (h5 : env[5]? = some (some (.int a))) (hne : ¬ (k = 12 ∧ 0 < a)) : sIf (tAndB (bVal (eBin gEq (eVar 3) (eC (.int 12)))) (bVal (eBin gGt (eVar 5) (eC (.int 0))))) X sNil env G = .nx env G := by
  by_cases c : k = 12
  · have c2 : ¬ 0 < a := fun z => hne ⟨c, z⟩
    simp [h, h5, c, c2]
  · simp [h, c]
theorem take_12 {env : Ev} {G : Gp} {k a : Int} {X : Ev → Gp → SR} {r : SR} (h : env[3]? = some (some (.int k))) (h5 : env[5]? = some (some (.int a))) (h1 : k = 12) (h2 : 0 < a) (hr : X env G = r) : sIf (tAndB (bVal (eBin gEq (eVar 3) (eC (.int 12)))) (bVal (eBin gGt (eVar 5) (eC (.int 0))))) X sNil env G = r := by
  rw [← hr]
  simp [h, h5, h1, h2]
end K02

set_option Elab.async false
set_option linter.all false
set_option maxRecDepth 100000
set_option maxHeartbeats 4000000
set_option autoImplicit false
namespace K02
open PySem PySem.Spec L2 FL

theorem eraseIdx_mapU : ∀ (xs : List Nat) (i : Nat), (xs.map U.ref).eraseIdx i = (xs.eraseIdx i).map U.ref
  | [], _ => rfl
  | _ :: _, 0 => rfl
  | x :: xs, i + 1 => congrArg (U.ref x :: ·) (eraseIdx_mapU xs i)
/-- a paper of pairs -/
def qU (q : Int × Int) : U := .tup [.int q.1, .int q.2]
def qL (q : Int × Int) : List U := [.int q.1, .int q.2]
structure Pre (G0 G : Gp) (L : Nat) (qs : List (Int × Int)) : Prop where
  d : Dr G
  x : Ext G0 G
  g0 : 0 < G0.length
  hL : G0.length ≤ L
  n20 : qs.length ≤ 20
  top : G[L]? = some (.lst ((List.range qs.length).map fun s => U.ref (L + 1 + s)))
  rows : ∀ (s : Nat) (hs : s < qs.length), G[L + 1 + s]? = some (.lst (qL qs[s]))
theorem qL_int {q : Int × Int} {y : U} (h : y ∈ qL q) : noRef y := by
  unfold qL at h
  simp only [List.mem_cons, List.not_mem_nil, or_false] at h
  rcases h with rfl | rfl <;> exact noRef_int _
theorem Pre.ex {G0 G G' : Gp} {L : Nat} {qs : List (Int × Int)} (p : Pre G0 G L qs) (x : Ext G G') (d : Dr G') : Pre G0 G' L qs :=
  ⟨d, p.x.trans x, p.g0, p.hL, p.n20, x.at_ (by have := p.g0; have := p.hL; omega) p.top, fun s hs => x.at_ (by omega) (p.rows s hs)⟩
theorem Pre.gen {G0 G : Gp} {L : Nat} {qs : List (Int × Int)} (p : Pre G0 G L qs) : Gen G0 G L ((List.range qs.length).map fun s => L + 1 + s) :=
  ⟨p.d, p.x, p.g0, p.hL, by simp; have := p.n20; omega, by rw [p.top, List.map_map]; rfl, fun l hl => by
    obtain ⟨s, hs, rfl⟩ := List.mem_map.mp hl
    have hs := List.mem_range.mp hs
    exact ⟨by have := p.hL; omega, by omega, _, p.rows s hs, by simp [qL], fun y hy => qL_int hy⟩⟩
theorem Pre.lt {G0 G : Gp} {L s : Nat} {qs : List (Int × Int)} (p : Pre G0 G L qs) (hs : s < qs.length) : L + 1 + s < G.length := (List.getElem?_eq_some_iff.mp (p.rows s hs)).1
section
variable {tv : U} {k a : Int} {ai sz : Nat} {G0 G : Gp} {L : Nat} {qs : List (Int × Int)}
def Fire (tv : U) (k a : Int) (ai sz : Nat) (G0 G : Gp) (L : Nat) (X : Ev → Gp → SR) : Prop := ∃ Lr ls G', X (EnvC tv k L a (L + 1 + ai) sz none) G = .nx (EnvC tv k Lr a (L + 1 + ai) sz none) G' ∧ Gen G0 G' Lr ls
theorem fire_set {ve : Ev → Gp → R U} {j : Int} (hj : j = 0 ∨ j = 1) (p : Pre G0 G L qs) (ha : a = (ai : Int) ∧ ai < qs.length) (hv : ∃ z, ve (EnvC tv k L a (L + 1 + ai) sz none) G = .ok (.int z) G) : Fire tv k a ai sz G0 G L (sAsg ve (gSubE (eVar 6) (eC (.int j)))) := by
  obtain ⟨z, hv⟩ := hv
  have r0 := p.rows ai ha.2
  have lt1 := p.lt ha.2
  have hL := p.hL
  have su := setU_ref (G := G) (v := .int z) (i := j) r0 (by omega) (by simp [qL]; omega)
  have gg := p.gen.setRow (l := L + 1 + ai) (ys := (qL qs[ai]).set j.toNat (.int z)) (by omega) (by omega) lt1 (by simp [qL]) (fun y hy => by
    rcases List.mem_or_eq_of_mem_set hy with h | h
    · exact qL_int h
    · rw [h]; exact noRef_int _)
  refine ⟨_, _, _, ?_, gg⟩
  rw [sAsg_, hv, r_then_ok]
  have ev : eVar 6 (EnvC tv k L a (L + 1 + ai) sz none) G = .ok (.ref (L + 1 + ai)) G := rfl
  rw [gSubE_, ev, r_bindN_ok, eC_, r_bindN_ok, su]
  rfl
theorem at0 (p : Pre G0 G L qs) (h : ai < qs.length) : gIdx (.ref (L + 1 + ai)) (.int 0) G = .ok (.int qs[ai].1) G := gIdx_ref (p.rows ai h) rfl
theorem at1 (p : Pre G0 G L qs) (h : ai < qs.length) : gIdx (.ref (L + 1 + ai)) (.int 1) G = .ok (.int qs[ai].2) G := gIdx_ref (p.rows ai h) rfl
theorem fire_0 (p : Pre G0 G L qs) (ha : a = (ai : Int) ∧ ai < qs.length) : Fire tv k a ai sz G0 G L g__law_changed_1 :=
  fire_set (Or.inl rfl) p ha ⟨qs[ai].1 - 1, by have := at0 p ha.2; generalize qs[ai]'ha.2 = q at this ⊢; simp [EnvC, this]⟩
theorem fire_1 (p : Pre G0 G L qs) (ha : a = (ai : Int) ∧ ai < qs.length) : Fire tv k a ai sz G0 G L g__law_changed_2 :=
  fire_set (Or.inl rfl) p ha ⟨qs[ai].1 + 1, by have := at0 p ha.2; generalize qs[ai]'ha.2 = q at this ⊢; simp [EnvC, this]⟩
theorem fire_2 (p : Pre G0 G L qs) (ha : a = (ai : Int) ∧ ai < qs.length) : Fire tv k a ai sz G0 G L g__law_changed_3 :=
  fire_set (Or.inr rfl) p ha ⟨qs[ai].2 - 1, by have := at1 p ha.2; generalize qs[ai]'ha.2 = q at this ⊢; simp [EnvC, this]⟩
theorem fire_3 (p : Pre G0 G L qs) (ha : a = (ai : Int) ∧ ai < qs.length) : Fire tv k a ai sz G0 G L g__law_changed_4 :=
  fire_set (Or.inr rfl) p ha ⟨qs[ai].2 + 1, by have := at1 p ha.2; generalize qs[ai]'ha.2 = q at this ⊢; simp [EnvC, this]⟩
theorem fire_4 (p : Pre G0 G L qs) (ha : a = (ai : Int) ∧ ai < qs.length) : Fire tv k a ai sz G0 G L g__law_changed_5 :=
  fire_set (Or.inr rfl) p ha ⟨(sz : Int) + 1, by unfold EnvC; generalize ((sz : Nat) : Int) = zz; simp⟩
theorem fire_5 (p : Pre G0 G L qs) (ha : a = (ai : Int) ∧ ai < qs.length) : Fire tv k a ai sz G0 G L g__law_changed_6 :=
  fire_set (Or.inl rfl) p ha ⟨-1, by simp⟩
theorem fire_6 (p : Pre G0 G L qs) (ha : a = (ai : Int) ∧ ai < qs.length) : Fire tv k a ai sz G0 G L g__law_changed_7 :=
  fire_set (Or.inl rfl) p ha ⟨qs[ai].2, by have := at1 p ha.2; generalize qs[ai]'ha.2 = q at this ⊢; simp [EnvC, this]⟩
theorem fire_12 (htv : tv = .tup (qs.map qU)) (p : Pre G0 G L qs) (ha : a = (ai : Int) ∧ ai < qs.length) (h0 : 0 < a) : Fire tv k a ai sz G0 G L g__law_changed_10 := by
  have hlt : ai - 1 < qs.length := by have := ha.2; omega
  have ix : ∀ G', gIdx tv (.int (a - 1)) G' = .ok (qU qs[ai - 1]) G' := fun G' => by
    rw [htv]
    refine gIdx_tup (atI_pos (by omega) ?_)
    rw [show (a - 1).toNat = ai - 1 by have := ha.1; omega, List.getElem?_map, List.getElem?_eq_getElem hlt]
    rfl
  have i1 : ∀ G', gIdx (qU qs[ai - 1]) (.int 1) G' = .ok (.int qs[ai - 1].2) G' := fun G' => gIdx_tup rfl
  refine fire_set (Or.inl rfl) p ha ⟨qs[ai - 1].2 - 2, ?_⟩
  generalize qs[ai - 1]'hlt = q at ix i1 ⊢
  simp [EnvC, ix, i1]
theorem fire_7 (p : Pre G0 G L qs) (ha : a = (ai : Int) ∧ ai < qs.length) : Fire tv k a ai sz G0 G L g__law_changed_8 := by
  obtain ⟨o, G1, e1, o1, d1, x1⟩ := odd_spec p.d
  obtain ⟨j, G2, e2, a2, b2, o2, d2⟩ := next_spec (b := 2) d1 (by decide)
  have p2 := (p.ex x1 d1).ex o2.ext d2
  have r0 := p2.rows ai ha.2
  have lt1 := p2.lt ha.2
  have hL := p.hL
  have su := setU_ref (G := G2) (v := o) (i := j) r0 (by omega) (by simp [qL]; omega)
  have gg := p2.gen.setRow (l := L + 1 + ai) (ys := (qL qs[ai]).set j.toNat o) (by omega) (by omega) lt1 (by simp [qL]) (fun y hy => by
    rcases List.mem_or_eq_of_mem_set hy with h | h
    · exact qL_int h
    · rw [h]; exact o1.1)
  refine ⟨_, _, _, ?_, gg⟩
  unfold EnvC
  generalize (qL qs[ai]).set j.toNat o = zs at su ⊢
  simp [g__law_changed_8, e1, e2, su]
theorem fire_8 (p : Pre G0 G L qs) (ha : a = (ai : Int) ∧ ai < qs.length) : Fire tv k a ai sz G0 G L (sExpr (eMeth mAppend (eVar 6) (aCons (eVar 2) aNil))) := by
  have r0 := p.rows ai ha.2
  have lt1 := p.lt ha.2
  have hL := p.hL
  have ap : mAppend (.ref (L + 1 + ai)) [.int (sz : Nat)] G = .ok .non (G.set (L + 1 + ai) (.lst (qL qs[ai] ++ [.int (sz : Nat)]))) := mAppend_ref r0 (by simp [qL])
  have il := isLst_ref r0
  have gg := p.gen.setRow (l := L + 1 + ai) (ys := qL qs[ai] ++ [.int (sz : Nat)]) (by omega) (by omega) lt1 (by simp [qL]) (fun y hy => by
    rcases List.mem_append.mp hy with h | h
    · exact qL_int h
    · rw [List.mem_singleton] at h; rw [h]; exact noRef_int _)
  refine ⟨_, _, _, ?_, gg⟩
  unfold EnvC
  generalize ((sz : Nat) : Int) = zz at ap ⊢
  generalize qL qs[ai] ++ [U.int zz] = zs at ap ⊢
  simp [eMeth_, il, ap]
theorem fire_9 (p : Pre G0 G L qs) (ha : a = (ai : Int) ∧ ai < qs.length) : Fire tv k a ai sz G0 G L (sExpr (eMeth mPop (eVar 6) aNil)) := by
  have r0 := p.rows ai ha.2
  have lt1 := p.lt ha.2
  have hL := p.hL
  have po : mPop (.ref (L + 1 + ai)) [] G = .ok (.int qs[ai].2) (G.set (L + 1 + ai) (.lst [.int qs[ai].1])) := by
    unfold mPop
    simp only [r0]
    rfl
  have il := isLst_ref r0
  have gg := p.gen.setRow (l := L + 1 + ai) (ys := [.int qs[ai].1]) (by omega) (by omega) lt1 (by simp) (fun y hy => by
    rw [List.mem_singleton] at hy; rw [hy]; exact noRef_int _)
  refine ⟨_, _, _, ?_, gg⟩
  unfold EnvC
  generalize qs[ai]'ha.2 = q at po ⊢
  simp [eMeth_, il, po]
theorem fire_10 (p : Pre G0 G L qs) (ha : a = (ai : Int) ∧ ai < qs.length) : Fire tv k a ai sz G0 G L (sExpr (eMeth mPopAt (eVar 4) (aCons (eVar 5) aNil))) := by
  have g := p.gen
  have n6 := p.n20
  obtain ⟨ls, hls⟩ : ∃ ls, ls = (List.range qs.length).map fun s => L + 1 + s := ⟨_, rfl⟩
  rw [← hls] at g
  have hll : ls.length = qs.length := by rw [hls]; simp
  have po := mPopAt_ref (i := a) (y := .ref (ls[ai]'(by omega))) g.top (by omega) (by omega) (by rw [show a.toNat = ai by omega, List.getElem?_map, List.getElem?_eq_getElem (by omega)]; rfl)
  have il := isLst_ref g.top
  have gg := g.setRows (ms := ls.eraseIdx a.toNat) (by have := List.length_eraseIdx_le ls a.toNat; omega) (fun l hl => Or.inl (List.mem_of_mem_eraseIdx hl))
  have em : (ls.map U.ref).eraseIdx a.toNat = (ls.eraseIdx a.toNat).map U.ref := eraseIdx_mapU _ _
  rw [em] at po
  refine ⟨_, _, _, ?_, gg⟩
  generalize ls[ai]'(by omega) = z at po
  unfold EnvC
  simp [eMeth_, il, po]
theorem fire_11 (p : Pre G0 G L qs) (ha : a = (ai : Int) ∧ ai < qs.length) : Fire tv k a ai sz G0 G L g__law_changed_9 := by
  have g := p.gen
  have n6 := p.n20
  have hL := p.hL
  have r0 := p.rows ai ha.2
  have bl : bList [.ref (L + 1 + ai)] G = .ok (.ref G.length) (G ++ [.lst (qL qs[ai])]) := bList_seq (seqU_of r0)
  obtain ⟨G1, hG1⟩ : ∃ G1, G1 = G ++ [OU.lst (qL qs[ai])] := ⟨_, rfl⟩
  have x1 : Ex0 G G1 := by rw [hG1]; exact ex0_push _ _
  have a1 : G1[G.length]? = some (.lst (qL qs[ai])) := by rw [hG1]; exact push_at _ _
  rw [← hG1] at bl
  have g1 := g.ex x1.ext (x1.dr p.d)
  have il := isLst_ref p.top
  have ap : mAppend (.ref L) [.ref G.length] G1 = .ok .non (G1.set L (.lst ((((List.range qs.length).map fun s => L + 1 + s) ++ [G.length]).map U.ref))) := by
    rw [mAppend_ref g1.top (by simp; omega), List.map_append]; rfl
  have hGL := (List.getElem?_eq_some_iff.mp p.top).1
  have gg := g1.setRows (ms := ((List.range qs.length).map fun s => L + 1 + s) ++ [G.length]) (by simp; omega) (fun l hl => by
    rcases List.mem_append.mp hl with h | h
    · exact Or.inl h
    · rw [List.mem_singleton] at h
      subst h
      exact Or.inr ⟨by have := p.x.1; omega, by omega, _, a1, by simp [qL], fun y hy => qL_int hy⟩)
  refine ⟨_, _, _, ?_, gg⟩
  unfold EnvC
  generalize (((List.range qs.length).map fun s => L + 1 + s) ++ [G.length]).map U.ref = zs at ap ⊢
  simp [g__law_changed_9, eMeth_, il, bl, ap]
theorem fire_13 (p : Pre G0 G L qs) (ha : a = (ai : Int) ∧ ai < qs.length) : Fire tv k a ai sz G0 G L g__law_changed_11 := by
  have g := p.gen
  have n6 := p.n20
  obtain ⟨ls, hls⟩ : ∃ ls, ls = (List.range qs.length).map fun s => L + 1 + s := ⟨_, rfl⟩
  rw [← hls] at g
  have hll : ls.length = qs.length := by rw [hls]; simp
  obtain ⟨z, hz⟩ : ∃ z, z = ls[ai]'(by omega) := ⟨_, rfl⟩
  have hzm : z ∈ ls := by rw [hz]; exact List.getElem_mem _
  have po := mPopAt_ref (i := a) (y := .ref z) g.top (by omega) (by omega) (by rw [show a.toNat = ai by omega, List.getElem?_map, List.getElem?_eq_getElem (by omega), hz]; rfl)
  have il := isLst_ref g.top
  have hle := List.length_eraseIdx_le ls a.toNat
  have gg := g.setRows (ms := ls.eraseIdx a.toNat) (by omega) (fun l hl => Or.inl (List.mem_of_mem_eraseIdx hl))
  have em : (ls.map U.ref).eraseIdx a.toNat = (ls.eraseIdx a.toNat).map U.ref := eraseIdx_mapU _ _
  rw [em] at po
  have rz := g.row z hzm
  obtain ⟨G1, hG1⟩ : ∃ G1, G1 = G.set L (.lst ((ls.eraseIdx a.toNat).map U.ref)) := ⟨_, rfl⟩
  rw [← hG1] at po gg
  have ins := mInsert_ref (i := 0) (y := .ref z) gg.top (by omega) (by omega) (by rw [List.length_map]; omega)
  have ei : (((ls.eraseIdx a.toNat).map U.ref).take (0 : Int).toNat ++ [.ref z] ++ ((ls.eraseIdx a.toNat).map U.ref).drop (0 : Int).toNat) = (z :: ls.eraseIdx a.toNat).map U.ref := rfl
  rw [ei] at ins
  have g2 := gg.setRows (ms := z :: ls.eraseIdx a.toNat) (by simp; omega) (fun l hl => by
    rcases List.mem_cons.mp hl with h | h
    · subst h
      obtain ⟨q1, q2, ys, q3, q4⟩ := rz
      exact Or.inr ⟨q1, q2, ys, by rw [hG1, List.getElem?_set_ne (Ne.symm q2)]; exact q3, q4⟩
    · exact Or.inl h)
  refine ⟨_, _, _, ?_, g2⟩
  unfold EnvC
  simp [g__law_changed_11, eMeth_, il, po, ins]
end
theorem changed_spec {qs : List (Int × Int)} {sz : Nat} {szi : Int} {G : Gp} (hn0 : 0 < qs.length) (hn : qs.length ≤ 20) (hsz : szi = (sz : Int)) (hD : Dr G) : ∃ u G', F__law_changed [.ref 0, .tup (qs.map qU), .int szi] G = .ok u G' ∧ ValG u G' ∧ Dr G' ∧ Ext G G' := by
  rw [run__law_changed]
  obtain ⟨tv, hpre⟩ : ∃ tv, tv = U.tup (qs.map qU) := ⟨_, rfl⟩
  rw [← hpre]
  obtain ⟨kd, G1, e1, a1, b1, o1, d1⟩ := next_spec (b := 16) hD (by decide)
  obtain ⟨L, hL⟩ : ∃ L, L = G1.length := ⟨_, rfl⟩
  obtain ⟨G2, e2, x2, top, rows⟩ := comp_fresh (own := [6]) (G := G1) (G1 := G1) (fi := iOf (eVar 1) kSeq) (gf := gNm 6) (fe := eCall bList (aCons (eVar 6) aNil)) (env := [some (.ref 0), some tv, some (.int szi), some (.int kd), none, none, none, none, none]) (ys := qs) (g := qU) (fun q => qL q) (iOf_ok (u := tv) (by simp) (by rw [hpre]; rfl)) (srcx_tup (G := G1)).2 (by omega) (fun q hq G2 x => by
    have bq := bList_seq (u := qU qs[q]) (G := G2) (xs := qL qs[q]) rfl
    generalize qs[q] = z at bq ⊢
    exact ⟨_, rfl, by simp [wipeE, bq]⟩)
  rw [← hL] at e2 top rows
  have p2 : Pre G G2 L qs := ⟨x2.dr d1, o1.ext.trans x2.ext, hD.len, by rw [hL, o1.1]; exact Nat.le_refl _, hn, top, rows⟩
  have bl2 : bLen [.ref L] G2 = .ok (.int (qs.length : Nat)) G2 := by rw [bLen_seq (seqU_of top)]; simp
  obtain ⟨ni, hni⟩ : ∃ ni : Int, ni = (qs.length : Int) := ⟨_, rfl⟩
  rw [← hni] at bl2
  obtain ⟨a, G3, e3, a3, b3, o3, d3⟩ := next_spec (b := ni) p2.d (by omega)
  have p5 := p2.ex o3.ext d3
  obtain ⟨ai, hai⟩ : ∃ ai : Nat, a = (ai : Int) := ⟨a.toNat, by omega⟩
  have ha : a = (ai : Int) ∧ ai < qs.length := ⟨hai, by omega⟩
  have ix : gIdx (.ref L) (.int a) G3 = .ok (.ref (L + 1 + ai)) G3 := gIdx_ref p5.top (atI_pos (by omega) (by rw [show a.toNat = ai by omega, List.getElem?_map, List.getElem?_range ha.2]; rfl))
  have hai := ha.2
  have key : Res G (g__law_changed [some (.ref 0), some tv, some (.int szi), none, none, none, none, none, none] G) := by
    unfold g__law_changed
    rw [seq_nx (e' := [some (.ref 0), some tv, some (.int szi), some (.int kd), none, none, none, none, none]) (G' := G1) (by simp [e1]), seq_nx (e' := [some (.ref 0), some tv, some (.int szi), some (.int kd), some (.ref L), none, none, none, none]) (G' := G2) (by rw [sAsg_, e2]; rfl), seq_nx (e' := [some (.ref 0), some tv, some (.int szi), some (.int kd), some (.ref L), some (.int a), none, none, none]) (G' := G3) (by simp [bl2, e3]),
      seq_nx (e' := EnvC tv kd L a (L + 1 + ai) sz none) (G' := G3) (by unfold EnvC; rw [← hsz]; simp [ix])]
    have hkd : kd = 0 ∨ kd = 1 ∨ kd = 2 ∨ kd = 3 ∨ kd = 4 ∨ kd = 5 ∨ kd = 6 ∨ kd = 7 ∨ kd = 8 ∨ kd = 9 ∨ kd = 10 ∨ kd = 11 ∨ kd = 12 ∨ kd = 13 ∨ kd = 14 ∨ kd = 15 := by omega
    clear e1 e2 e3
    rcases hkd with rfl | rfl | rfl | rfl | rfl | rfl | rfl | rfl | rfl | rfl | rfl | rfl | rfl | rfl | rfl | rfl
    · obtain ⟨Lr, ls, G9, e9, g9⟩ := fire_0 (tv := tv) (k := 0) (a := a) (sz := sz) p5 ha
      obtain ⟨u, G10, e10, h10⟩ := fin_gen (tv := tv) (k := 0) (a := a) (rw := L + 1 + ai) (i := sz) (t := none) g9 (by decide)
      refine ⟨u, G10, ?_, h10⟩
      rw [seq_nx (take_eq rfl rfl e9), seq_nx (skip_eq rfl (by decide)), seq_nx (skip_eq rfl (by decide)), seq_nx (skip_eq rfl (by decide)), seq_nx (skip_eq rfl (by decide)), seq_nx (skip_eq rfl (by decide)), seq_nx (skip_eq rfl (by decide)), seq_nx (skip_eq rfl (by decide)), seq_nx (skip_eq rfl (by decide)), seq_nx (skip_eq rfl (by decide)), seq_nx (skip_eq rfl (by decide)), seq_nx (skip_eq rfl (by decide)), seq_nx (skip_12 rfl rfl (fun z => absurd z.1 (by decide))), seq_nx (skip_eq rfl (by decide)), seq_nx (skip_eq rfl (by decide))]
      exact e10
    · obtain ⟨Lr, ls, G9, e9, g9⟩ := fire_1 (tv := tv) (k := 1) (a := a) (sz := sz) p5 ha
      obtain ⟨u, G10, e10, h10⟩ := fin_gen (tv := tv) (k := 1) (a := a) (rw := L + 1 + ai) (i := sz) (t := none) g9 (by decide)
      refine ⟨u, G10, ?_, h10⟩
      rw [seq_nx (skip_eq rfl (by decide)), seq_nx (take_eq rfl rfl e9), seq_nx (skip_eq rfl (by decide)), seq_nx (skip_eq rfl (by decide)), seq_nx (skip_eq rfl (by decide)), seq_nx (skip_eq rfl (by decide)), seq_nx (skip_eq rfl (by decide)), seq_nx (skip_eq rfl (by decide)), seq_nx (skip_eq rfl (by decide)), seq_nx (skip_eq rfl (by decide)), seq_nx (skip_eq rfl (by decide)), seq_nx (skip_eq rfl (by decide)), seq_nx (skip_12 rfl rfl (fun z => absurd z.1 (by decide))), seq_nx (skip_eq rfl (by decide)), seq_nx (skip_eq rfl (by decide))]
      exact e10
    · obtain ⟨Lr, ls, G9, e9, g9⟩ := fire_2 (tv := tv) (k := 2) (a := a) (sz := sz) p5 ha
      obtain ⟨u, G10, e10, h10⟩ := fin_gen (tv := tv) (k := 2) (a := a) (rw := L + 1 + ai) (i := sz) (t := none) g9 (by decide)
      refine ⟨u, G10, ?_, h10⟩
      rw [seq_nx (skip_eq rfl (by decide)), seq_nx (skip_eq rfl (by decide)), seq_nx (take_eq rfl rfl e9), seq_nx (skip_eq rfl (by decide)), seq_nx (skip_eq rfl (by decide)), seq_nx (skip_eq rfl (by decide)), seq_nx (skip_eq rfl (by decide)), seq_nx (skip_eq rfl (by decide)), seq_nx (skip_eq rfl (by decide)), seq_nx (skip_eq rfl (by decide)), seq_nx (skip_eq rfl (by decide)), seq_nx (skip_eq rfl (by decide)), seq_nx (skip_12 rfl rfl (fun z => absurd z.1 (by decide))), seq_nx (skip_eq rfl (by decide)), seq_nx (skip_eq rfl (by decide))]
      exact e10
    · obtain ⟨Lr, ls, G9, e9, g9⟩ := fire_3 (tv := tv) (k := 3) (a := a) (sz := sz) p5 ha
      obtain ⟨u, G10, e10, h10⟩ := fin_gen (tv := tv) (k := 3) (a := a) (rw := L + 1 + ai) (i := sz) (t := none) g9 (by decide)
      refine ⟨u, G10, ?_, h10⟩
      rw [seq_nx (skip_eq rfl (by decide)), seq_nx (skip_eq rfl (by decide)), seq_nx (skip_eq rfl (by decide)), seq_nx (take_eq rfl rfl e9), seq_nx (skip_eq rfl (by decide)), seq_nx (skip_eq rfl (by decide)), seq_nx (skip_eq rfl (by decide)), seq_nx (skip_eq rfl (by decide)), seq_nx (skip_eq rfl (by decide)), seq_nx (skip_eq rfl (by decide)), seq_nx (skip_eq rfl (by decide)), seq_nx (skip_eq rfl (by decide)), seq_nx (skip_12 rfl rfl (fun z => absurd z.1 (by decide))), seq_nx (skip_eq rfl (by decide)), seq_nx (skip_eq rfl (by decide))]
      exact e10
    · obtain ⟨Lr, ls, G9, e9, g9⟩ := fire_4 (tv := tv) (k := 4) (a := a) (sz := sz) p5 ha
      obtain ⟨u, G10, e10, h10⟩ := fin_gen (tv := tv) (k := 4) (a := a) (rw := L + 1 + ai) (i := sz) (t := none) g9 (by decide)
      refine ⟨u, G10, ?_, h10⟩
      rw [seq_nx (skip_eq rfl (by decide)), seq_nx (skip_eq rfl (by decide)), seq_nx (skip_eq rfl (by decide)), seq_nx (skip_eq rfl (by decide)), seq_nx (take_eq rfl rfl e9), seq_nx (skip_eq rfl (by decide)), seq_nx (skip_eq rfl (by decide)), seq_nx (skip_eq rfl (by decide)), seq_nx (skip_eq rfl (by decide)), seq_nx (skip_eq rfl (by decide)), seq_nx (skip_eq rfl (by decide)), seq_nx (skip_eq rfl (by decide)), seq_nx (skip_12 rfl rfl (fun z => absurd z.1 (by decide))), seq_nx (skip_eq rfl (by decide)), seq_nx (skip_eq rfl (by decide))]
      exact e10
    · obtain ⟨Lr, ls, G9, e9, g9⟩ := fire_5 (tv := tv) (k := 5) (a := a) (sz := sz) p5 ha
      obtain ⟨u, G10, e10, h10⟩ := fin_gen (tv := tv) (k := 5) (a := a) (rw := L + 1 + ai) (i := sz) (t := none) g9 (by decide)
      refine ⟨u, G10, ?_, h10⟩
      rw [seq_nx (skip_eq rfl (by decide)), seq_nx (skip_eq rfl (by decide)), seq_nx (skip_eq rfl (by decide)), seq_nx (skip_eq rfl (by decide)), seq_nx (skip_eq rfl (by decide)), seq_nx (take_eq rfl rfl e9), seq_nx (skip_eq rfl (by decide)), seq_nx (skip_eq rfl (by decide)), seq_nx (skip_eq rfl (by decide)), seq_nx (skip_eq rfl (by decide)), seq_nx (skip_eq rfl (by decide)), seq_nx (skip_eq rfl (by decide)), seq_nx (skip_12 rfl rfl (fun z => absurd z.1 (by decide))), seq_nx (skip_eq rfl (by decide)), seq_nx (skip_eq rfl (by decide))]
      exact e10
    · obtain ⟨Lr, ls, G9, e9, g9⟩ := fire_6 (tv := tv) (k := 6) (a := a) (sz := sz) p5 ha
      obtain ⟨u, G10, e10, h10⟩ := fin_gen (tv := tv) (k := 6) (a := a) (rw := L + 1 + ai) (i := sz) (t := none) g9 (by decide)
      refine ⟨u, G10, ?_, h10⟩
      rw [seq_nx (skip_eq rfl (by decide)), seq_nx (skip_eq rfl (by decide)), seq_nx (skip_eq rfl (by decide)), seq_nx (skip_eq rfl (by decide)), seq_nx (skip_eq rfl (by decide)), seq_nx (skip_eq rfl (by decide)), seq_nx (take_eq rfl rfl e9), seq_nx (skip_eq rfl (by decide)), seq_nx (skip_eq rfl (by decide)), seq_nx (skip_eq rfl (by decide)), seq_nx (skip_eq rfl (by decide)), seq_nx (skip_eq rfl (by decide)), seq_nx (skip_12 rfl rfl (fun z => absurd z.1 (by decide))), seq_nx (skip_eq rfl (by decide)), seq_nx (skip_eq rfl (by decide))]
      exact e10
    · obtain ⟨Lr, ls, G9, e9, g9⟩ := fire_7 (tv := tv) (k := 7) (a := a) (sz := sz) p5 ha
      obtain ⟨u, G10, e10, h10⟩ := fin_gen (tv := tv) (k := 7) (a := a) (rw := L + 1 + ai) (i := sz) (t := none) g9 (by decide)
      refine ⟨u, G10, ?_, h10⟩
      rw [seq_nx (skip_eq rfl (by decide)), seq_nx (skip_eq rfl (by decide)), seq_nx (skip_eq rfl (by decide)), seq_nx (skip_eq rfl (by decide)), seq_nx (skip_eq rfl (by decide)), seq_nx (skip_eq rfl (by decide)), seq_nx (skip_eq rfl (by decide)), seq_nx (take_eq rfl rfl e9), seq_nx (skip_eq rfl (by decide)), seq_nx (skip_eq rfl (by decide)), seq_nx (skip_eq rfl (by decide)), seq_nx (skip_eq rfl (by decide)), seq_nx (skip_12 rfl rfl (fun z => absurd z.1 (by decide))), seq_nx (skip_eq rfl (by decide)), seq_nx (skip_eq rfl (by decide))]
      exact e10
    · obtain ⟨Lr, ls, G9, e9, g9⟩ := fire_8 (tv := tv) (k := 8) (a := a) (sz := sz) p5 ha
      obtain ⟨u, G10, e10, h10⟩ := fin_gen (tv := tv) (k := 8) (a := a) (rw := L + 1 + ai) (i := sz) (t := none) g9 (by decide)
      refine ⟨u, G10, ?_, h10⟩
      rw [seq_nx (skip_eq rfl (by decide)), seq_nx (skip_eq rfl (by decide)), seq_nx (skip_eq rfl (by decide)), seq_nx (skip_eq rfl (by decide)), seq_nx (skip_eq rfl (by decide)), seq_nx (skip_eq rfl (by decide)), seq_nx (skip_eq rfl (by decide)), seq_nx (skip_eq rfl (by decide)), seq_nx (take_eq rfl rfl e9), seq_nx (skip_eq rfl (by decide)), seq_nx (skip_eq rfl (by decide)), seq_nx (skip_eq rfl (by decide)), seq_nx (skip_12 rfl rfl (fun z => absurd z.1 (by decide))), seq_nx (skip_eq rfl (by decide)), seq_nx (skip_eq rfl (by decide))]
      exact e10
    · obtain ⟨Lr, ls, G9, e9, g9⟩ := fire_9 (tv := tv) (k := 9) (a := a) (sz := sz) p5 ha
      obtain ⟨u, G10, e10, h10⟩ := fin_gen (tv := tv) (k := 9) (a := a) (rw := L + 1 + ai) (i := sz) (t := none) g9 (by decide)
      refine ⟨u, G10, ?_, h10⟩
      rw [seq_nx (skip_eq rfl (by decide)), seq_nx (skip_eq rfl (by decide)), seq_nx (skip_eq rfl (by decide)), seq_nx (skip_eq rfl (by decide)), seq_nx (skip_eq rfl (by decide)), seq_nx (skip_eq rfl (by decide)), seq_nx (skip_eq rfl (by decide)), seq_nx (skip_eq rfl (by decide)), seq_nx (skip_eq rfl (by decide)), seq_nx (take_eq rfl rfl e9), seq_nx (skip_eq rfl (by decide)), seq_nx (skip_eq rfl (by decide)), seq_nx (skip_12 rfl rfl (fun z => absurd z.1 (by decide))), seq_nx (skip_eq rfl (by decide)), seq_nx (skip_eq rfl (by decide))]
      exact e10
    · obtain ⟨Lr, ls, G9, e9, g9⟩ := fire_10 (tv := tv) (k := 10) (a := a) (sz := sz) p5 ha
      obtain ⟨u, G10, e10, h10⟩ := fin_gen (tv := tv) (k := 10) (a := a) (rw := L + 1 + ai) (i := sz) (t := none) g9 (by decide)
      refine ⟨u, G10, ?_, h10⟩
      rw [seq_nx (skip_eq rfl (by decide)), seq_nx (skip_eq rfl (by decide)), seq_nx (skip_eq rfl (by decide)), seq_nx (skip_eq rfl (by decide)), seq_nx (skip_eq rfl (by decide)), seq_nx (skip_eq rfl (by decide)), seq_nx (skip_eq rfl (by decide)), seq_nx (skip_eq rfl (by decide)), seq_nx (skip_eq rfl (by decide)), seq_nx (skip_eq rfl (by decide)), seq_nx (take_eq rfl rfl e9), seq_nx (skip_eq rfl (by decide)), seq_nx (skip_12 rfl rfl (fun z => absurd z.1 (by decide))), seq_nx (skip_eq rfl (by decide)), seq_nx (skip_eq rfl (by decide))]
      exact e10
    · obtain ⟨Lr, ls, G9, e9, g9⟩ := fire_11 (tv := tv) (k := 11) (a := a) (sz := sz) p5 ha
      obtain ⟨u, G10, e10, h10⟩ := fin_gen (tv := tv) (k := 11) (a := a) (rw := L + 1 + ai) (i := sz) (t := none) g9 (by decide)
      refine ⟨u, G10, ?_, h10⟩
      rw [seq_nx (skip_eq rfl (by decide)), seq_nx (skip_eq rfl (by decide)), seq_nx (skip_eq rfl (by decide)), seq_nx (skip_eq rfl (by decide)), seq_nx (skip_eq rfl (by decide)), seq_nx (skip_eq rfl (by decide)), seq_nx (skip_eq rfl (by decide)), seq_nx (skip_eq rfl (by decide)), seq_nx (skip_eq rfl (by decide)), seq_nx (skip_eq rfl (by decide)), seq_nx (skip_eq rfl (by decide)), seq_nx (take_eq rfl rfl e9), seq_nx (skip_12 rfl rfl (fun z => absurd z.1 (by decide))), seq_nx (skip_eq rfl (by decide)), seq_nx (skip_eq rfl (by decide))]
      exact e10
    · by_cases hc : 0 < a
      · obtain ⟨Lr, ls, G9, e9, g9⟩ := fire_12 (tv := tv) (k := 12) (a := a) (sz := sz) hpre p5 ha hc
        obtain ⟨u, G10, e10, h10⟩ := fin_gen (tv := tv) (k := 12) (a := a) (rw := L + 1 + ai) (i := sz) (t := none) g9 (by decide)
        refine ⟨u, G10, ?_, h10⟩
        rw [seq_nx (skip_eq rfl (by decide)), seq_nx (skip_eq rfl (by decide)), seq_nx (skip_eq rfl (by decide)), seq_nx (skip_eq rfl (by decide)), seq_nx (skip_eq rfl (by decide)), seq_nx (skip_eq rfl (by decide)), seq_nx (skip_eq rfl (by decide)), seq_nx (skip_eq rfl (by decide)), seq_nx (skip_eq rfl (by decide)), seq_nx (skip_eq rfl (by decide)), seq_nx (skip_eq rfl (by decide)), seq_nx (skip_eq rfl (by decide)), seq_nx (take_12 rfl rfl rfl hc e9), seq_nx (skip_eq rfl (by decide)), seq_nx (skip_eq rfl (by decide))]
        exact e10
      · obtain ⟨u, G10, e10, h10⟩ := fin_gen (tv := tv) (k := 12) (a := a) (rw := L + 1 + ai) (i := sz) (t := none) p5.gen (by decide)
        refine ⟨u, G10, ?_, h10⟩
        rw [seq_nx (skip_eq rfl (by decide)), seq_nx (skip_eq rfl (by decide)), seq_nx (skip_eq rfl (by decide)), seq_nx (skip_eq rfl (by decide)), seq_nx (skip_eq rfl (by decide)), seq_nx (skip_eq rfl (by decide)), seq_nx (skip_eq rfl (by decide)), seq_nx (skip_eq rfl (by decide)), seq_nx (skip_eq rfl (by decide)), seq_nx (skip_eq rfl (by decide)), seq_nx (skip_eq rfl (by decide)), seq_nx (skip_eq rfl (by decide)), seq_nx (skip_12 rfl rfl (fun z => hc z.2)), seq_nx (skip_eq rfl (by decide)), seq_nx (skip_eq rfl (by decide))]
        exact e10
    · obtain ⟨Lr, ls, G9, e9, g9⟩ := fire_13 (tv := tv) (k := 13) (a := a) (sz := sz) p5 ha
      obtain ⟨u, G10, e10, h10⟩ := fin_gen (tv := tv) (k := 13) (a := a) (rw := L + 1 + ai) (i := sz) (t := none) g9 (by decide)
      refine ⟨u, G10, ?_, h10⟩
      rw [seq_nx (skip_eq rfl (by decide)), seq_nx (skip_eq rfl (by decide)), seq_nx (skip_eq rfl (by decide)), seq_nx (skip_eq rfl (by decide)), seq_nx (skip_eq rfl (by decide)), seq_nx (skip_eq rfl (by decide)), seq_nx (skip_eq rfl (by decide)), seq_nx (skip_eq rfl (by decide)), seq_nx (skip_eq rfl (by decide)), seq_nx (skip_eq rfl (by decide)), seq_nx (skip_eq rfl (by decide)), seq_nx (skip_eq rfl (by decide)), seq_nx (skip_12 rfl rfl (fun z => absurd z.1 (by decide))), seq_nx (take_eq rfl rfl e9), seq_nx (skip_eq rfl (by decide))]
      exact e10
    · obtain ⟨u, G10, e10, h10⟩ := fin_14 (tv := tv) (k := 14) (a := a) (r := L + 1 + ai) (i := sz) (t := none) p5.gen
      refine ⟨u, G10, ?_, h10⟩
      rw [seq_nx (skip_eq rfl (by decide)), seq_nx (skip_eq rfl (by decide)), seq_nx (skip_eq rfl (by decide)), seq_nx (skip_eq rfl (by decide)), seq_nx (skip_eq rfl (by decide)), seq_nx (skip_eq rfl (by decide)), seq_nx (skip_eq rfl (by decide)), seq_nx (skip_eq rfl (by decide)), seq_nx (skip_eq rfl (by decide)), seq_nx (skip_eq rfl (by decide)), seq_nx (skip_eq rfl (by decide)), seq_nx (skip_eq rfl (by decide)), seq_nx (skip_12 rfl rfl (fun z => absurd z.1 (by decide))), seq_nx (skip_eq rfl (by decide)), sSeq_, take_eq rfl rfl e10]
    · obtain ⟨u, G10, e10, h10⟩ := fin_15 (tv := tv) (a := a) (r := L + 1 + ai) (i := sz) (t := none) p5.gen (by omega) (by simp; omega) (p5.rows ai hai)
      refine ⟨u, G10, ?_, h10⟩
      rw [seq_nx (skip_eq rfl (by decide)), seq_nx (skip_eq rfl (by decide)), seq_nx (skip_eq rfl (by decide)), seq_nx (skip_eq rfl (by decide)), seq_nx (skip_eq rfl (by decide)), seq_nx (skip_eq rfl (by decide)), seq_nx (skip_eq rfl (by decide)), seq_nx (skip_eq rfl (by decide)), seq_nx (skip_eq rfl (by decide)), seq_nx (skip_eq rfl (by decide)), seq_nx (skip_eq rfl (by decide)), seq_nx (skip_eq rfl (by decide)), seq_nx (skip_12 rfl rfl (fun z => absurd z.1 (by decide))), seq_nx (skip_eq rfl (by decide)), seq_nx (skip_eq rfl (by decide))]
      exact e10
  obtain ⟨u, G', e, h⟩ := key
  refine ⟨u, G', ?_, h⟩
  rw [e]
  rfl
end K02

set_option Elab.async false
set_option linter.all false
set_option maxRecDepth 100000
set_option maxHeartbeats 4000000
set_option autoImplicit false
namespace K02
open PySem PySem.Spec L2 FL

theorem pdn_mono : ∀ (d : Nat) (x : U), PDn d x → PDn (d + 1) x := by
  intro d
  induction d with
  | zero => intro x h; cases x <;> first | trivial | exact h.elim
  | succ d ih =>
    intro x h
    cases x with
    | tup xs => exact ⟨h.1, fun y hy => ih y (h.2 y hy)⟩
    | non => trivial
    | bl _ => trivial
    | int _ => trivial
    | str _ => trivial
    | _ => exact h.elim
theorem pdn_up {d : Nat} {x : U} (h : PDn d x) : ∀ k, PDn (d + k) x
  | 0 => h
  | k + 1 => pdn_mono _ _ (pdn_up h k)
@[simp] theorem bInt_b (b : Bool) (G : Gp) : bInt [.bl b] G = .ok (.int (if b = true then 1 else 0)) G := id rfl
theorem pick2 {x y : U} {r : Int} (h0 : 0 ≤ r) (h1 : r < 2) (G : Gp) : gIdx (.tup [x, y]) (.int r) G = .ok (if r = 0 then x else y) G := by
  have : r = 0 ∨ r = 1 := by omega
  rcases this with rfl | rfl
  · exact gIdx_tup rfl
  · exact gIdx_tup rfl
/-- the paper of the least top -/
def toQ (c : List (Nat × Nat)) : List (Int × Int) := c.map fun p => ((p.1 : Int), (p.2 : Int))
theorem toQ_eq (c : List (Nat × Nat)) : c.map prU = (toQ c).map qU := by
  unfold toQ
  rw [List.map_map]
  rfl
theorem chn_len {T : Int} {row : List Int} : ∀ (j b : Nat) (c : List (Nat × Nat)), Chn T row j b c → c.length = j
  | 0, _, c, h => by
    have h : c = [] := h
    rw [h]; rfl
  | j + 1, b, c, ⟨k, rest, hc, _, _, h⟩ => by
    rw [hc, List.length_cons, chn_len j _ rest h]
theorem valg_q {qs : List (Int × Int)} {G : Gp} (h : qs.length ≤ 1000) : ValG (.tup (qs.map qU)) G := by
  refine Or.inl ⟨_, rfl, by rw [List.length_map]; exact h, fun x hx => ?_⟩
  obtain ⟨q, _, rfl⟩ := List.mem_map.mp hx
  exact Or.inl ⟨_, rfl, by simp, fun y hy => by
    simp only [List.mem_cons, List.not_mem_nil, or_false] at hy
    rcases hy with rfl | rfl <;> exact noRef_int _⟩
theorem valg_odd {v : U} {G : Gp} (h : Odd v) : ValG v G := by
  rcases h.2.2.2 with z | rfl | rfl | rfl
  · exact Or.inr (Or.inl ⟨h.1, fun ys e => by rw [e] at z; exact nomatch z⟩)
  · exact Or.inl ⟨[], rfl, by simp, fun x h => by simp at h⟩
  · exact Or.inl ⟨_, rfl, by simp, fun x h => by
      simp at h; subst h
      exact Or.inr (Or.inl ⟨fun l h => (nomatch h), fun ys h => (nomatch h)⟩)⟩
  · exact Or.inl ⟨_, rfl, by simp, fun x h => by
      simp at h
      rcases h with rfl | rfl <;> exact Or.inr (Or.inl ⟨fun l h => (nomatch h), fun ys h => (nomatch h)⟩)⟩
/-! ### free papers -/
def EnvF (lp : Nat) (c T : Int) (lf : Nat) (b : Int) (k e p : Option U) : Ev := [some (.ref 0), some (.ref lp), some (.int c), some (.int T), some (.ref lf), some (.int b), k, e, p]
theorem free_in {ps : List Int} {lp lf : Nat} {c T b e0 : Int} {kk p0 : Option U} {G : Gp} (h : OkP ps) (hp : G[lp]? = some (.lst (ps.map .int))) :
    ∃ (e : Int) (p' : Option U) (G' : Gp), sFor (iOfs (aCons (eCall bLen (aCons (eVar 1) aNil)) aNil) kRng1) (gNm 8) g__law_free_paper_1 (EnvF lp c T lf b kk (some (.int e0)) p0) G = .nx (EnvF lp c T lf b kk (some (.int e)) p') G' ∧ Ex0 G G' := by
  have hn := h.2.1
  obtain ⟨ni, hni⟩ : ∃ ni : Int, ni = (ps.length : Int) := ⟨_, rfl⟩
  have bl : ∀ G', Ex0 G G' → bLen [.ref lp] G' = .ok (.int ni) G' := fun G' x => by rw [bLen_seq (seqU_of (x.at_ hp)), List.length_map, hni]
  refine sFor_rng1 (j := ni) (G1 := G) (fun i ev G' => ∃ (e : Int) (p : Option U), ev = EnvF lp c T lf b kk (some (.int e)) p ∧ Ex0 G G') (fun r => ∃ (e : Int) (p' : Option U) (G' : Gp), r = .nx (EnvF lp c T lf b kk (some (.int e)) p') G' ∧ Ex0 G G') (by simp [EnvF, bl G (Ex0.refl _)]) (by omega) (by omega) ⟨e0, p0, rfl, Ex0.refl _⟩ ?_ ?_
  · intro i hi ev G' hI
    obtain ⟨e, p, he, x⟩ := hI
    subst he
    generalize ((i : Nat) : Int) = ii
    have bl' := bl G' x
    obtain ⟨G2, sl, x2, bs⟩ := sl_ref (lo := some b) (hi := some e) (x.at_ hp)
    generalize (cutU ps (some b) (some e)).sum = S at bs
    by_cases c1 : e < ni
    · by_cases c2 : S < T
      · have fine : (gNm 8 (.int ii) (EnvF lp c T lf b kk (some (.int e)) p) G').andThen (EnvF lp c T lf b kk (some (.int e)) p) (fun env1 G1 => g__law_free_paper_1 env1 G1) = .nx (EnvF lp c T lf b kk (some (.int (e + 1))) (some (.int ii))) G2 := by
          simp [EnvF, g__law_free_paper_1, bl', c1, sl, bs, c2]
        rw [fine]
        exact ⟨_, _, rfl, x.trans x2⟩
      · have fine : (gNm 8 (.int ii) (EnvF lp c T lf b kk (some (.int e)) p) G').andThen (EnvF lp c T lf b kk (some (.int e)) p) (fun env1 G1 => g__law_free_paper_1 env1 G1) = .nx (EnvF lp c T lf b kk (some (.int e)) (some (.int ii))) G2 := by
          simp [EnvF, g__law_free_paper_1, bl', c1, sl, bs, c2]
        rw [fine]
        exact ⟨_, _, rfl, x.trans x2⟩
    · have fine : (gNm 8 (.int ii) (EnvF lp c T lf b kk (some (.int e)) p) G').andThen (EnvF lp c T lf b kk (some (.int e)) p) (fun env1 G1 => g__law_free_paper_1 env1 G1) = .nx (EnvF lp c T lf b kk (some (.int e)) (some (.int ii))) G' := by
        simp [EnvF, g__law_free_paper_1, bl', c1]
      rw [fine]
      exact ⟨_, _, rfl, x⟩
  · intro ev G' hI
    obtain ⟨e, p, he, x⟩ := hI
    subst he
    exact ⟨e, p, G', rfl, x⟩
theorem free_spec {ps : List Int} {lp s : Nat} {si T : Int} {G : Gp} (h : OkP ps) (hlp : 0 < lp) (hp : G[lp]? = some (.lst (ps.map .int))) (hsi : si = (s : Int)) (h2 : s ≤ ps.length) (hD : Dr G) : ∃ (qs : List (Int × Int)) (G' : Gp), F__law_free_paper [.ref 0, .ref lp, .int si, .int T] G = .ok (.tup (qs.map qU)) G' ∧ qs.length = s ∧ Dr G' ∧ Ext G G' := by
  rw [run__law_free_paper]
  have hn := h.2.1
  obtain ⟨ni, hni⟩ : ∃ ni : Int, ni = (ps.length : Int) := ⟨_, rfl⟩
  obtain ⟨lf, hlf⟩ : ∃ lf, lf = G.length := ⟨_, rfl⟩
  obtain ⟨G1, hG1⟩ : ∃ G1, G1 = G ++ [OU.lst []] := ⟨_, rfl⟩
  have x1 : Ex0 G G1 := by rw [hG1]; exact ex0_push _ _
  have a1 : G1[lf]? = some (.lst []) := by rw [hG1, hlf]; exact push_at _ _
  have hDl := hD.len
  obtain ⟨q, G2, e2, _, _, o2, d2⟩ := next_spec (b := 4) (x1.dr hD) (by decide)
  have a2 : G2[lf]? = some (.lst []) := by rw [o2.2 lf (by omega)]; exact a1
  obtain ⟨b0, hb0⟩ : ∃ b0 : Int, b0 = if q = 0 then 1 else 0 := ⟨_, rfl⟩
  have L : ∃ (b : Int) (k e p : Option U) (qs : List (Int × Int)) (G3 : Gp), sFor (iOfs (aCons (eVar 2) aNil) kRng1) (gNm 6) g__law_free_paper_2 (EnvF lp si T lf b0 none none none) G2 = .nx (EnvF lp si T lf b k e p) G3 ∧ Dr G3 ∧ Ext G G3 ∧ G3[lf]? = some (.lst (qs.map qU)) ∧ qs.length = s := by
    refine sFor_rng1 (j := si) (G1 := G2) (fun j ev G' => ∃ (b : Int) (k e p : Option U) (qs : List (Int × Int)), ev = EnvF lp si T lf b k e p ∧ Dr G' ∧ Ext G G' ∧ G'[lf]? = some (.lst (qs.map qU)) ∧ qs.length = j) (fun r => ∃ (b : Int) (k e p : Option U) (qs : List (Int × Int)) (G3 : Gp), r = .nx (EnvF lp si T lf b k e p) G3 ∧ Dr G3 ∧ Ext G G3 ∧ G3[lf]? = some (.lst (qs.map qU)) ∧ qs.length = s) (by simp [EnvF]) (by omega) (by omega) ⟨b0, _, _, _, [], rfl, d2, x1.ext.trans o2.ext, a2, rfl⟩ ?_ ?_
    · intro j hj ev G' hI
      obtain ⟨b, k, e, p, qs, he, d3, x3, a3, hql⟩ := hI
      subst he
      generalize ((j : Nat) : Int) = ji
      have p3 := x3.at_ hlp hp
      have bl3 : bLen [.ref lp] G' = .ok (.int ni) G' := by rw [bLen_seq (seqU_of p3), List.length_map, hni]
      obtain ⟨b', hb'⟩ : ∃ b', b' = min b (ni - 1) := ⟨_, rfl⟩
      obtain ⟨e', p', G4, e4, x4⟩ := free_in (lf := lf) (c := si) (T := T) (b := b') (e0 := b' + 1) (kk := some (.int ji)) (p0 := p) h p3
      have p4 := x4.at_ p3
      have bl4 : bLen [.ref lp] G4 = .ok (.int ni) G4 := by rw [bLen_seq (seqU_of p4), List.length_map, hni]
      have d4 := x4.dr d3
      have st5 : ∃ (e5 : Int) (G5 : Gp), sIf (tAndB (bVal (eBin gLt (eVar 7) (eCall bLen (aCons (eVar 1) aNil)))) (bVal (eBin gEq (eCall F__law_next (aCons (eVar 0) (aCons (eC (.int 4)) aNil))) (eC (.int 0))))) (sAsg (eBin gAdd (eVar 7) (eC (.int 1))) (gNm 7)) sNil (EnvF lp si T lf b' (some (.int ji)) (some (.int e')) p') G4 = .nx (EnvF lp si T lf b' (some (.int ji)) (some (.int e5)) p') G5 ∧ Ext G4 G5 ∧ Dr G5 := by
        by_cases c : e' < ni
        · obtain ⟨q5, G5, e5, _, _, o5, d5⟩ := next_spec (b := 4) d4 (by decide)
          by_cases c2 : q5 = 0
          · exact ⟨e' + 1, G5, by simp [EnvF, bl4, c, e5, c2], o5.ext, d5⟩
          · exact ⟨e', G5, by simp [EnvF, bl4, c, e5, c2], o5.ext, d5⟩
        · exact ⟨e', G4, by simp [EnvF, bl4, c], Ext.refl _, d4⟩
      obtain ⟨e5, G5, st5, x5, d5⟩ := st5
      have a5 := x5.at_ (by omega) (x4.at_ a3)
      have ap : mAppend (.ref lf) [.tup [.int b', .int e5]] G5 = .ok .non (G5.set lf (.lst ((qs ++ [(b', e5)]).map qU))) := by
        rw [mAppend_ref a5 (by rw [List.length_map]; omega), List.map_append]; rfl
      have il := isLst_ref a5
      obtain ⟨G6, hG6⟩ : ∃ G6, G6 = G5.set lf (.lst ((qs ++ [(b', e5)]).map qU)) := ⟨_, rfl⟩
      rw [← hG6] at ap
      have d6 : Dr G6 := by rw [hG6]; exact dr_set d5 (by omega) _
      have a6 : G6[lf]? = some (.lst ((qs ++ [(b', e5)]).map qU)) := by rw [hG6]; exact set_get a5
      have x6 : Ext G G6 := by rw [hG6]; exact ext_set ((x3.trans x4.ext).trans x5) (by omega) _
      obtain ⟨q7, G7, e7, _, _, o7, d7⟩ := next_spec (b := 4) d6 (by decide)
      have fine : (gNm 6 (.int ji) (EnvF lp si T lf b k e p) G').andThen (EnvF lp si T lf b k e p) (fun env1 G1 => g__law_free_paper_2 env1 G1) = .nx (EnvF lp si T lf (e5 - 1 + (if q7 = 0 then 1 else 0)) (some (.int ji)) (some (.int e5)) p') G7 := by
        rw [gNm_, r_then_ok]
        show g__law_free_paper_2 (EnvF lp si T lf b (some (.int ji)) e p) G' = _
        unfold g__law_free_paper_2
        rw [seq_nx (e' := EnvF lp si T lf b' (some (.int ji)) e p) (G' := G') (by simp [EnvF, bl3, hb']), seq_nx (e' := EnvF lp si T lf b' (some (.int ji)) (some (.int (b' + 1))) p) (G' := G') (by simp [EnvF]), seq_nx e4, seq_nx st5, seq_nx (e' := EnvF lp si T lf b' (some (.int ji)) (some (.int e5)) p') (G' := G6) (by simp [EnvF, eMeth_, il, ap])]
        by_cases c : q7 = 0
        · simp [EnvF, e7, c]
        · simp [EnvF, e7, c]
      rw [fine]
      exact ⟨_, _, _, _, qs ++ [(b', e5)], rfl, d7, x6.trans o7.ext, o7.ext.at_ (by omega) a6, by simp [hql]⟩
    · intro ev G' hI
      obtain ⟨b, k, e, p, qs, he, d3, x3, a3, hql⟩ := hI
      subst he
      exact ⟨b, k, e, p, qs, G', rfl, d3, x3, a3, by omega⟩
  obtain ⟨b, k, e, p, qs, G3, L, d3, x3, a3, hql⟩ := L
  have bt := bTuple_seq (seqU_of a3)
  refine ⟨qs, G3, ?_, hql, d3, x3⟩
  unfold g__law_free_paper
  rw [seq_nx (e' := [some (.ref 0), some (.ref lp), some (.int si), some (.int T), some (.ref lf), none, none, none, none]) (G' := G1) (by simp [hG1, hlf]), seq_nx (e' := EnvF lp si T lf b0 none none none) (G' := G2) (by
    rw [hb0]
    by_cases c : q = 0
    · simp [EnvF, e2, c]
    · simp [EnvF, e2, c]), seq_nx L]
  simp [EnvF, bt]
/-! ### papers right -/
structure Qs (ps : List Int) (s : Nat) (si T : Int) (c : List (Nat × Nat)) : Prop where
  ok : OkP ps
  s1 : 1 ≤ s
  s2 : s ≤ ps.length
  hs : si = (s : Int)
  top : IsTop ps s T
  T1 : 1 ≤ T
  ch : Chn T ps s 0 c
def EnvH (lp : Nat) (si T : Int) (pa : U) (lo : Int) (bar k fr va : Option U) : Ev := [some (.ref 0), some (.ref lp), some (.int si), some (.int T), some pa, some (.int lo), bar, k, fr, va, none]
section
variable {ps : List Int} {s lp : Nat} {si T lo : Int} {c : List (Nat × Nat)} {pa : U}
theorem loop_1 {bs : List Int} {f : Ev → Gp → R U} {G G0 : Gp} {b k fr va : Option U} (q : Qs ps s si T c) (hp : G[lp]? = some (.lst (ps.map .int))) (hpa : pa = .tup (c.map prU)) (hf : f (EnvH lp si T pa lo b k fr va) G0 = .ok (.tup (bs.map .int)) G) :
    ∃ b' G', sFor (iOf f kSeq) (gNm 6) g__law_papers_right_1 (EnvH lp si T pa lo b k fr va) G0 = .nx (EnvH lp si T pa lo b' k fr va) G' ∧ Ex0 G G' := by
  refine sFor_tup (xs := bs.map .int) (G1 := G) (fun i ev G' => ∃ b, ev = EnvH lp si T pa lo b k fr va ∧ Ex0 G G') (fun r => ∃ b' G', r = .nx (EnvH lp si T pa lo b' k fr va) G' ∧ Ex0 G G') hf ⟨b, rfl, Ex0.refl _⟩ ?_ ?_
  · intro i hi ev G' hI
    obtain ⟨b, he, x1⟩ := hI
    subst he
    rw [List.getElem_map]
    generalize bs[i]'(by simpa using hi) = bar
    have w : ValG pa G' := by rw [hpa, toQ_eq]; exact valg_q (by unfold toQ; rw [List.length_map, chn_len _ _ _ q.ch]; have := q.s2; have := q.ok.2.1; omega)
    obtain ⟨G2, e2, x2⟩ := judged_spec (T := bar) q.ok (x1.at_ hp) q.s1 q.s2 q.hs w
    have fine : (gNm 6 (.int bar) (EnvH lp si T pa lo b k fr va) G').andThen (EnvH lp si T pa lo b k fr va) (fun env1 G1 => g__law_papers_right_1 env1 G1) = .nx (EnvH lp si T pa lo (some (.int bar)) k fr va) G2 := by
      simp [EnvH, g__law_papers_right_1, e2]
    rw [fine]
    exact ⟨_, rfl, x1.trans x2⟩
  · intro ev G' hI
    obtain ⟨b, he, x1⟩ := hI
    subst he
    exact ⟨b, G', rfl, x1⟩
theorem loop_2 {us : List U} {bar : Int} {f : Ev → Gp → R U} {G G0 : Gp} {k fr va : Option U} (q : Qs ps s si T c) (hp : G[lp]? = some (.lst (ps.map .int))) (hv : ∀ u ∈ us, ValG u G) (hf : f (EnvH lp si T pa lo (some (.int bar)) k fr va) G0 = .ok (.tup us) G) :
    ∃ va' G', sFor (iOf f kSeq) (gNm 9) g__law_papers_right_2 (EnvH lp si T pa lo (some (.int bar)) k fr va) G0 = .nx (EnvH lp si T pa lo (some (.int bar)) k fr va') G' ∧ Ex0 G G' := by
  refine sFor_tup (xs := us) (G1 := G) (fun i ev G' => ∃ va, ev = EnvH lp si T pa lo (some (.int bar)) k fr va ∧ Ex0 G G') (fun r => ∃ va' G', r = .nx (EnvH lp si T pa lo (some (.int bar)) k fr va') G' ∧ Ex0 G G') hf ⟨va, rfl, Ex0.refl _⟩ ?_ ?_
  · intro i hi ev G' hI
    obtain ⟨va, he, x1⟩ := hI
    subst he
    have w := (hv us[i] (List.getElem_mem hi)).ex x1.ext
    generalize us[i] = u at w
    obtain ⟨G2, e2, x2⟩ := judged_spec (T := bar) q.ok (x1.at_ hp) q.s1 q.s2 q.hs w
    obtain ⟨G3, e3, x3⟩ := judged_spec (T := bar + 1) q.ok ((x1.trans x2).at_ hp) q.s1 q.s2 q.hs (w.ex x2.ext)
    obtain ⟨G4, e4, x4⟩ := judged_spec (T := lo) q.ok (((x1.trans x2).trans x3).at_ hp) q.s1 q.s2 q.hs (w.ex (x2.trans x3).ext)
    have fine : (gNm 9 u (EnvH lp si T pa lo (some (.int bar)) k fr va) G').andThen (EnvH lp si T pa lo (some (.int bar)) k fr va) (fun env1 G1 => g__law_papers_right_2 env1 G1) = .nx (EnvH lp si T pa lo (some (.int bar)) k fr (some u)) G4 := by
      simp [EnvH, g__law_papers_right_2, e2, e3, e4]
    rw [fine]
    exact ⟨_, rfl, ((x1.trans x2).trans x3).trans x4⟩
  · intro ev G' hI
    obtain ⟨va, he, x1⟩ := hI
    subst he
    exact ⟨va, G', rfl, x1⟩
theorem comp_grow {α : Type} {own : List Nat} {fi : Ev → Gp → R Src} {gf : U → Ev → Gp → R Ev} {fe : Ev → Gp → R U} {env : Ev} {G G1 : Gp} {src : Src} {ys : List α} {g : α → U} (f : α → U) (hf : fi env G = .ok src G1) (hs : SrcX src (ys.map g) G1) (hlen : ys.length < 16777216)
    (step : ∀ (i : Nat) (hi : i < ys.length) (G2 : Gp), Ex0 G1 G2 → ∃ env1 G3, gf (g ys[i]) (wipeE env own) G2 = .ok env1 G2 ∧ fe env1 G2 = .ok (f ys[i]) G3 ∧ Ex0 G2 G3) :
    ∃ G', eComp own fi gf tYesB fe env G = .ok (.ref G1.length) G' ∧ Ex0 G1 G' ∧ G'[G1.length]? = some (.lst (ys.map f)) := by
  have hl : (ys.map g).length = ys.length := List.length_map ..
  refine eComp_post (src := src) (xs := ys.map g) (G1 := G1) (fun i acc G => acc = (ys.take i).map f ∧ Ex0 G1 G) (fun r => ∃ G', r = .ok (.ref G1.length) G' ∧ Ex0 G1 G' ∧ G'[G1.length]? = some (.lst (ys.map f))) hf ⟨hs.1, fun i acc G h hI => hs.2 i G h hI.2⟩ (by rw [hl]; exact hlen) ⟨by simp, ex0_push _ _⟩ ?_ ?_
  · intro i hi acc G2 hI hat
    obtain ⟨ha, hx⟩ := hI
    subst ha
    rw [hl] at hi
    obtain ⟨env1, G3, s1, s2, s3⟩ := step i hi G2 hx
    rw [List.getElem_map]
    have tk : ys.take (i + 1) = ys.take i ++ [ys[i]] := List.take_succ_eq_append_getElem hi
    refine ⟨env1, G2, true, G2, s1, rfl, fun _ => ⟨f ys[i], G3, s2, s3.at_ hat, ?_, ex0_set (hx.trans s3) (Nat.le_refl _) _⟩, fun h => nomatch h⟩
    rw [tk, List.map_append]; rfl
  · intro acc G2 _ hI hat
    obtain ⟨ha, hx⟩ := hI
    subst ha
    rw [hl, List.take_length] at hat
    exact ⟨G2, rfl, hx, hat⟩
theorem body_3 {G : Gp} {b k fr va : Option U} (q : Qs ps s si T c) (hpa : pa = .tup (c.map prU)) (hlp : 0 < lp) (hp : G[lp]? = some (.lst (ps.map .int))) (hD : Dr G) :
    ∃ b' fr' va' G', g__law_papers_right_3 (EnvH lp si T pa lo b k fr va) G = .nx (EnvH lp si T pa lo b' k fr' va') G' ∧ Dr G' ∧ Ext G G' := by
  have hn := q.ok.2.1
  have s1 := q.s1
  have s2 := q.s2
  obtain ⟨r, G1, e1, a1, b1, o1, d1⟩ := next_spec (b := T) hD (by have := q.T1; omega)
  obtain ⟨qs, G2, e2, hql, d2, x2⟩ := free_spec (T := 1 + r) q.ok hlp (o1.ext.at_ hlp hp) q.hs q.s2 d1
  have x02 := o1.ext.trans x2
  have p2 := x02.at_ hlp hp
  obtain ⟨fv, hfv⟩ : ∃ fv, fv = U.tup (qs.map qU) := ⟨_, rfl⟩
  rw [← hfv] at e2
  let E1 : Ev := EnvH lp si T pa lo b k (some fv) va
  obtain ⟨G3, e3, x3, at3⟩ := comp_grow (own := [10]) (fi := iOf (eVar 8) kSeq) (G := G2) (G1 := G2) (gf := gNm 10) (fe := eCall bSum (aCons (eSl (eVar 1) (pInt (eBin gIdx (eVar 10) (eC (.int 0)))) (pInt (eBin gIdx (eVar 10) (eC (.int 1))))) aNil)) (env := E1) (ys := qs) (g := qU) (fun z => U.int (cutU ps (some z.1) (some z.2)).sum) (iOf_ok (u := fv) (by simp [E1, EnvH]) (by rw [hfv]; rfl)) (srcx_tup (G := G2)).2 (by omega) (fun i hi G4 x4 => by
    obtain ⟨G5, sl, x5, bs⟩ := sl_ref (lo := some qs[i].1) (hi := some qs[i].2) (x4.at_ p2)
    have i0 : gIdx (qU qs[i]) (.int 0) G4 = .ok (.int qs[i].1) G4 := gIdx_tup rfl
    have i1 : gIdx (qU qs[i]) (.int 1) G4 = .ok (.int qs[i].2) G4 := gIdx_tup rfl
    generalize (cutU ps (some qs[i].1) (some qs[i].2)).sum = S at bs ⊢
    generalize qs[i] = z at sl i0 i1 ⊢
    exact ⟨_, G5, rfl, by simp [E1, EnvH, wipeE, i0, i1, sl, bs], x5⟩)
  obtain ⟨bar, hbar⟩ : ∃ bar, bar = minL (qs.map fun z => (cutU ps (some z.1) (some z.2)).sum) := ⟨_, rfl⟩
  have bm : bMin [.ref G2.length] G3 = .ok (.int bar) G3 := by
    rw [hbar]
    refine bInts_seq (by rw [seqU_of at3, List.map_map]; rfl) (fun h => ?_)
    have := congrArg List.length h.2
    simp at this
    rw [this] at hql
    simp at hql
    omega
  have d3 := x3.dr d2
  have x03 := x02.trans x3.ext
  have p3 := x03.at_ hlp hp
  have bl3 : bLen [.ref lp] G3 = .ok (.int (ps.length : Nat)) G3 := blen_ref p3
  obtain ⟨c4, G4, e4, w4, d4, x4⟩ := changed_spec (qs := qs) (sz := ps.length) (szi := (ps.length : Int)) (by omega) (by omega) rfl d3
  have p4 := x4.at_ hlp p3
  have bl4 : bLen [.ref lp] G4 = .ok (.int (ps.length : Nat)) G4 := blen_ref p4
  have hcl : (toQ c).length = s := by unfold toQ; rw [List.length_map, chn_len _ _ _ q.ch]
  obtain ⟨c5, G5, e5, w5, d5, x5⟩ := changed_spec (qs := toQ c) (sz := ps.length) (szi := (ps.length : Int)) (by omega) (by omega) rfl d4
  rw [← toQ_eq, ← hpa] at e5
  rw [← hfv] at e4
  have x05 := (x03.trans x4).trans x5
  have wf : ValG fv G5 := by rw [hfv]; exact valg_q (by omega)
  obtain ⟨ni, hni⟩ : ∃ ni : Int, ni = (ps.length : Int) := ⟨_, rfl⟩
  rw [← hni] at bl3 bl4 e4 e5
  obtain ⟨va', G6, e6, x6⟩ := loop_2 (us := [fv, c4, c5]) (bar := bar) (f := eTup (aCons (eVar 8) (aCons (eCall F__law_changed (aCons (eVar 0) (aCons (eVar 8) (aCons (eCall bLen (aCons (eVar 1) aNil)) aNil)))) (aCons (eCall F__law_changed (aCons (eVar 0) (aCons (eVar 4) (aCons (eCall bLen (aCons (eVar 1) aNil)) aNil)))) aNil)))) (G := G5) (G0 := G3) (pa := pa) (lo := lo) (k := k) (fr := some fv) (va := va) q (x05.at_ hlp hp) (fun u hu => by
    simp only [List.mem_cons, List.not_mem_nil, or_false] at hu
    rcases hu with rfl | rfl | rfl
    · exact wf
    · exact w4.ex x5
    · exact w5) (by simp [EnvH, bl3, e4, bl4, e5])
  refine ⟨some (.int bar), some fv, va', G6, ?_, x6.dr d5, x05.trans x6.ext⟩
  unfold g__law_papers_right_3
  rw [seq_nx (e' := EnvH lp si T pa lo b k (some fv) va) (G' := G2) (by simp [EnvH, e1, e2]), seq_nx (e' := EnvH lp si T pa lo (some (.int bar)) k (some fv) va) (G' := G3) (by
    rw [sAsg_, eCall_, aCons_, e3]
    simp only [r_bind_ok, aNil_, bm, r_then_ok, gNm_]
    rfl), e6]
end
theorem papers_right {ps : List Int} {s lp : Nat} {si T : Int} {c : List (Nat × Nat)} {G : Gp} (q : Qs ps s si T c) (hlp : 0 < lp) (hp : G[lp]? = some (.lst (ps.map .int))) (hD : Dr G) : ∃ G', F__law_papers_right [.ref 0, .ref lp, .int si, .int T] G = .ok (.bl true) G' ∧ Dr G' ∧ Ext G G' := by
  rw [run__law_papers_right]
  have hn := q.ok.2.1
  obtain ⟨G1, e1, x1⟩ := paper_spec q.ok hp q.s2 q.ch
  rw [← q.hs] at e1
  obtain ⟨pa, hpa⟩ : ∃ pa, pa = U.tup (c.map prU) := ⟨_, rfl⟩
  rw [← hpa] at e1
  obtain ⟨r, G2, e2, a2, b2, o2, d2⟩ := next_spec (b := 4) (x1.dr hD) (by decide)
  obtain ⟨big, hb⟩ : ∃ big : Int, big = 10 ^ 30 := ⟨_, rfl⟩
  have pw : ∀ G', gPow (.int 10) (.int 30) G' = .ok (.int big) G' := fun G' => by rw [hb]; rfl
  obtain ⟨lo, hlo⟩ : ∃ lo : Int, gIdx (.tup [.int 0, .int (-1), .int (T - 1), .int (1 - big)]) (.int r) G2 = .ok (.int lo) G2 := by
    have : r = 0 ∨ r = 1 ∨ r = 2 ∨ r = 3 := by omega
    rcases this with rfl | rfl | rfl | rfl
    · exact ⟨0, gIdx_tup rfl⟩
    · exact ⟨-1, gIdx_tup rfl⟩
    · exact ⟨T - 1, gIdx_tup rfl⟩
    · exact ⟨1 - big, gIdx_tup rfl⟩
  have x02 : Ext G G2 := x1.ext.trans o2.ext
  obtain ⟨b3, G3, e3, x3⟩ := loop_1 (bs := [T, T + 1, big, lo]) (f := eTup (aCons (eVar 3) (aCons (eBin gAdd (eVar 3) (eC (.int 1))) (aCons (eBin gPow (eC (.int 10)) (eC (.int 30))) (aCons (eVar 5) aNil))))) (G := G2) (G0 := G2) (pa := pa) (lo := lo) (b := none) (k := none) (fr := none) (va := none) q (x02.at_ hlp hp) hpa (by simp [EnvH, pw])
  have x03 := x02.trans x3.ext
  have L : ∃ b k fr va G4, sFor (iOfs (aCons (eC (.int 4)) aNil) kRng1) (gNm 7) g__law_papers_right_3 (EnvH lp si T pa lo b3 none none none) G3 = .nx (EnvH lp si T pa lo b k fr va) G4 ∧ Dr G4 ∧ Ext G G4 := by
    refine sFor_rng1 (j := 4) (G1 := G3) (fun i ev G' => ∃ b k fr va, ev = EnvH lp si T pa lo b k fr va ∧ Dr G' ∧ Ext G G') (fun r => ∃ b k fr va G4, r = .nx (EnvH lp si T pa lo b k fr va) G4 ∧ Dr G4 ∧ Ext G G4) (by simp) (by decide) (by decide) ⟨_, _, _, _, rfl, x3.dr d2, x03⟩ ?_ ?_
    · intro i hi ev G' hI
      obtain ⟨b, k, fr, va, he, d', x'⟩ := hI
      subst he
      generalize ((i : Nat) : Int) = ii
      obtain ⟨b', fr', va', G5, e5, d5, x5⟩ := body_3 (lo := lo) (b := b) (k := some (.int ii)) (fr := fr) (va := va) q hpa hlp (x'.at_ hlp hp) d'
      have se : (EnvH lp si T pa lo b k fr va).set 7 (some (.int ii)) = EnvH lp si T pa lo b (some (.int ii)) fr va := rfl
      rw [gNm_, r_then_ok, se, e5]
      exact ⟨_, _, _, _, rfl, d5, x'.trans x5⟩
    · intro ev G' hI
      obtain ⟨b, k, fr, va, he, d', x'⟩ := hI
      subst he
      exact ⟨b, k, fr, va, G', rfl, d', x'⟩
  obtain ⟨b, k, fr, va, G4, e4, d4, x04⟩ := L
  obtain ⟨o, G5, e5, ho, d5, x5⟩ := odd_spec d4
  have x05 := x04.trans x5
  obtain ⟨G6, e6, x6⟩ := judged_spec (T := T) (u := o) q.ok (x05.at_ hlp hp) q.s1 q.s2 q.hs (valg_odd ho)
  have x06 := x05.trans x6.ext
  have w : ValG pa G6 := by rw [hpa, toQ_eq]; exact valg_q (by unfold toQ; rw [List.length_map, chn_len _ _ _ q.ch]; have := q.s2; omega)
  obtain ⟨G7, e7, x7⟩ := judged_spec (T := T) (u := pa) q.ok (x06.at_ hlp hp) q.s1 q.s2 q.hs w
  refine ⟨G7, ?_, (x6.trans x7).dr d5, x06.trans x7.ext⟩
  unfold g__law_papers_right
  rw [seq_nx (e' := [some (.ref 0), some (.ref lp), some (.int si), some (.int T), some pa, none, none, none, none, none, none]) (G' := G1) (by simp [e1]), seq_nx (e' := EnvH lp si T pa lo none none none none) (G' := G2) (by simp [EnvH, pw, e2, hlo]), seq_nx e3, seq_nx e4]
  simp [EnvH, e5, e6, e7]
/-! ### small ones -/
def EnvS (lp : Nat) (T : Int) (b e x : Option U) : Ev := [some (.ref lp), some (.int T), b, e, x]
theorem small_in {ps : List Int} {lp : Nat} {T b e : Int} {x0 : Option U} {G : Gp} (ok : OkP ps) (hp : G[lp]? = some (.lst (ps.map .int))) : ∃ x' G', g__law_small_right_2 (EnvS lp T (some (.int b)) (some (.int e)) x0) G = .nx (EnvS lp T (some (.int b)) (some (.int e)) x') G' ∧ Ex0 G G' := by
  unfold g__law_small_right_2
  refine sFor_tup (xs := [-1, T].map .int) (G1 := G) (fun i ev G' => ∃ x, ev = EnvS lp T (some (.int b)) (some (.int e)) x ∧ Ex0 G G') (fun r => ∃ x' G', r = .nx (EnvS lp T (some (.int b)) (some (.int e)) x') G' ∧ Ex0 G G') (by simp [EnvS]) ⟨x0, rfl, Ex0.refl _⟩ ?_ ?_
  · intro i hi ev G' hI
    obtain ⟨x, he, x1⟩ := hI
    subst he
    rw [List.getElem_map]
    generalize [-1, T][i]'(by simpa using hi) = bar
    obtain ⟨G2, e2, x2⟩ := judged_spec (T := bar) (u := .tup [.tup [.int b, .int e]]) (s := 1) (si := 1) ok (x1.at_ hp) (Nat.le_refl _) ok.1 rfl (valg_q (qs := [(b, e)]) (by simp))
    have fine : (gNm 4 (.int bar) (EnvS lp T (some (.int b)) (some (.int e)) x) G').andThen (EnvS lp T (some (.int b)) (some (.int e)) x) (fun env1 G1 => g__law_small_right_1 env1 G1) = .nx (EnvS lp T (some (.int b)) (some (.int e)) (some (.int bar))) G2 := by
      simp [EnvS, g__law_small_right_1, e2]
    rw [fine]
    exact ⟨_, rfl, x1.trans x2⟩
  · intro ev G' hI
    obtain ⟨x, he, x1⟩ := hI
    subst he
    exact ⟨x, G', rfl, x1⟩
theorem small_mid {ps : List Int} {lp : Nat} {T b : Int} {e0 x0 : Option U} {G : Gp} (ok : OkP ps) (hp : G[lp]? = some (.lst (ps.map .int))) : ∃ e' x' G', g__law_small_right_3 (EnvS lp T (some (.int b)) e0 x0) G = .nx (EnvS lp T (some (.int b)) e' x') G' ∧ Ex0 G G' := by
  have hn := ok.2.1
  have bl : bLen [.ref lp] G = .ok (.int (ps.length : Nat)) G := blen_ref hp
  obtain ⟨ni, hni⟩ : ∃ ni : Int, ni = (ps.length : Int) := ⟨_, rfl⟩
  rw [← hni] at bl
  obtain ⟨m1, hm1⟩ : ∃ m1 : Int, m1 = -1 := ⟨_, rfl⟩
  unfold g__law_small_right_3
  refine sFor_rng2 (a := m1) (j := ni + 2) (G1 := G) (fun i ev G' => ∃ e x, ev = EnvS lp T (some (.int b)) e x ∧ Ex0 G G') (fun r => ∃ e' x' G', r = .nx (EnvS lp T (some (.int b)) e' x') G' ∧ Ex0 G G') (by rw [hm1]; simp [EnvS, bl]) (by omega) (by omega) (by omega) (by omega) ⟨e0, x0, rfl, Ex0.refl _⟩ ?_ ?_
  · intro i hi ev G' hI
    obtain ⟨e, x, he, x1⟩ := hI
    subst he
    generalize m1 + ((i : Nat) : Int) = ee
    obtain ⟨x', G2, e2, x2⟩ := small_in (T := T) (b := b) (e := ee) (x0 := x) ok (x1.at_ hp)
    have se : (EnvS lp T (some (.int b)) e x).set 3 (some (.int ee)) = EnvS lp T (some (.int b)) (some (.int ee)) x := rfl
    rw [gNm_, r_then_ok, se, e2]
    exact ⟨_, _, rfl, x1.trans x2⟩
  · intro ev G' hI
    obtain ⟨e, x, he, x1⟩ := hI
    subst he
    exact ⟨e, x, G', rfl, x1⟩
theorem small_right {ps : List Int} {lp : Nat} {T : Int} {G : Gp} (ok : OkP ps) (hp : G[lp]? = some (.lst (ps.map .int))) : ∃ G', F__law_small_right [.ref lp, .int T] G = .ok (.bl true) G' := by
  rw [run__law_small_right]
  have hn := ok.2.1
  have bl : bLen [.ref lp] G = .ok (.int (ps.length : Nat)) G := blen_ref hp
  obtain ⟨ni, hni⟩ : ∃ ni : Int, ni = (ps.length : Int) := ⟨_, rfl⟩
  rw [← hni] at bl
  obtain ⟨m1, hm1⟩ : ∃ m1 : Int, m1 = -1 := ⟨_, rfl⟩
  have L : ∃ b e x G', sFor (iOfs (aCons (eUn gNeg (eC (.int 1))) (aCons (eBin gAdd (eCall bLen (aCons (eVar 0) aNil)) (eC (.int 2))) aNil)) kRng2) (gNm 2) g__law_small_right_3 (EnvS lp T none none none) G = .nx (EnvS lp T b e x) G' ∧ Ex0 G G' := by
    refine sFor_rng2 (a := m1) (j := ni + 2) (G1 := G) (fun i ev G' => ∃ b e x, ev = EnvS lp T b e x ∧ Ex0 G G') (fun r => ∃ b e x G', r = .nx (EnvS lp T b e x) G' ∧ Ex0 G G') (by rw [hm1]; simp [EnvS, bl]) (by omega) (by omega) (by omega) (by omega) ⟨_, _, _, rfl, Ex0.refl _⟩ ?_ ?_
    · intro i hi ev G' hI
      obtain ⟨b, e, x, he, x1⟩ := hI
      subst he
      generalize m1 + ((i : Nat) : Int) = bb
      obtain ⟨e', x', G2, e2, x2⟩ := small_mid (T := T) (b := bb) (e0 := e) (x0 := x) ok (x1.at_ hp)
      have se : (EnvS lp T b e x).set 2 (some (.int bb)) = EnvS lp T (some (.int bb)) e x := rfl
      rw [gNm_, r_then_ok, se, e2]
      exact ⟨_, _, _, rfl, x1.trans x2⟩
    · intro ev G' hI
      obtain ⟨b, e, x, he, x1⟩ := hI
      subst he
      exact ⟨b, e, x, G', rfl, x1⟩
  obtain ⟨b, e, x, G', L, _⟩ := L
  refine ⟨G', ?_⟩
  unfold g__law_small_right
  rw [show ([some (.ref lp), some (.int T), none, none, none] : Ev) = EnvS lp T none none none from rfl, seq_nx L]
  rfl
/-! ### refused -/
def W3 (w : Int) : Prop := w = 0 ∨ w = 1 ∨ w = 2
theorem called_exc {w : Int} (hw : W3 w) {u v x y : U} {G : Gp} {c : Str} {fs : List (Str × U)} (h : F_checked_cut [u, v] G = .exc c fs G) : F__law_called [.int w, u, v, x, y] G = .exc c fs G := by
  have h1 : F_least_top [u, v] G = .exc c fs G := by rw [run_least_top]; simp [g_least_top, h]
  have h2 : F_top_paper [u, v] G = .exc c fs G := by rw [run_top_paper]; simp [g_top_paper, h]
  have h3 : F_top_paper_holds [u, v, x, y] G = .exc c fs G := by rw [run_top_paper_holds]; simp [g_top_paper_holds, h]
  rcases hw with rfl | rfl | rfl
  · rw [called_least]; exact h1
  · rw [called_paper]; exact h2
  · rw [called_holds]; exact h3
/-- no number of stages -/
def Wn (ps : List Int) (v : U) : Prop := noRef v ∧ PDn 30 v ∧ inR v 1 (ps.length : Int) = false
def EnvR (lp : Nat) (si T : Int) (pa : U) (w : Option U) (a b c d : Option U) : Ev := [some (.ref 0), some (.ref lp), some (.int si), some (.int T), some pa, w, a, b, c, d]
theorem refused_in {ps : List Int} {si T w : Int} {lp : Nat} {pa : U} {G : Gp} {a b c d : Option U} (hw : W3 w) (ok : OkP ps) (hlp : 0 < lp) (hp : G[lp]? = some (.lst (ps.map .int))) (hD : Dr G) :
    ∃ a' b' c' d' G', g__law_refused_1 (EnvR lp si T pa (some (.int w)) a b c d) G = .nx (EnvR lp si T pa (some (.int w)) a' b' c' d') G' ∧ Dr G' ∧ Ext G G' := by
  have hn := ok.2.1
  obtain ⟨v0, Ga, ea, _, da, xa⟩ := odd_spec hD
  obtain ⟨rb, Gb, eb, ab, bb, ob, db⟩ := next_spec (b := 2) da (by decide)
  have kb := pick2 (x := pa) (y := v0) ab bb Gb
  generalize (if rb = 0 then pa else v0) = value at kb
  have x0b : Ext G Gb := xa.trans ob.ext
  obtain ⟨v1, G1, e1, o1, d1, x1⟩ := odd_spec db
  have p1 := (x0b.trans x1).at_ hlp hp
  have bl1 : bLen [.ref lp] G1 = .ok (.int (ps.length : Nat)) G1 := blen_ref p1
  obtain ⟨ni, hni⟩ : ∃ ni : Int, ni = (ps.length : Int) := ⟨_, rfl⟩
  rw [← hni] at bl1
  obtain ⟨r2, G2, e2, a2, b2, o2, d2⟩ := next_spec (b := 2) d1 (by decide)
  have k2 := pick2 (x := v1) (y := .int (ni + 1)) a2 b2 G2
  have wn : Wn ps (if r2 = 0 then v1 else .int (ni + 1)) := by
    by_cases z : r2 = 0
    · rw [if_pos z]; exact ⟨o1.1, o1.2.1, o1.inR (by decide) (by omega)⟩
    · rw [if_neg z]
      refine ⟨noRef_int _, trivial, ?_⟩
      have h1 : ¬ (ni + 1 ≤ (ps.length : Int)) := by omega
      simp [inR, h1]
  generalize (if r2 = 0 then v1 else .int (ni + 1)) = wrong at k2 wn
  have x02 : Ext G G2 := (x0b.trans x1).trans o2.ext
  have p2 := x02.at_ hlp hp
  have bl5 : bList [.ref lp] G2 = .ok (.ref G2.length) (G2 ++ [.lst (ps.map .int)]) := bList_seq (seqU_of p2)
  obtain ⟨G6, hG6⟩ : ∃ G6, G6 = G2 ++ [OU.lst (ps.map .int)] := ⟨_, rfl⟩
  have x6 : Ex0 G2 G6 := by rw [hG6]; exact ex0_push _ _
  have at6 : G6[G2.length]? = some (.lst (ps.map .int)) := by rw [hG6]; exact push_at _ _
  rw [← hG6] at bl5
  have t6 := told_num (called_exc (x := .int T) (y := value) hw (cut_num (v := wrong) (.inr ⟨_, rfl, at6⟩ : isSeq (.ref G2.length) (ps.map .int) G6) ok wn.1 wn.2.2))
  have s6 := same_spec 39 _ G6 (pdn_told (pdn_up wn.2.1 8) "number")
  have x06 := x02.trans x6.ext
  have p6 := x06.at_ hlp hp
  obtain ⟨u, k, G9, e9, hb, d9, x9⟩ := badc_spec ok hlp p6 (x6.dr d2)
  obtain ⟨r10, G10, e10, a10, b10, o10, d10⟩ := next_spec (b := 2) d9 (by decide)
  have k10 := pick2 (x := .int si) (y := wrong) a10 b10 G10
  generalize (if r10 = 0 then U.int si else wrong) = mo10 at k10
  have i0 : ∀ G', gIdx (.tup [u, .int k]) (.int 0) G' = .ok u G' := fun G' => gIdx_tup rfl
  have i1 : ∀ G', gIdx (.tup [u, .int k]) (.int 1) G' = .ok (.int k) G' := fun G' => gIdx_tup rfl
  have t11 := told_row (called_exc (x := .int T) (y := value) hw (cut_row (v := mo10) (hb G10 o10.ext)))
  have s11 := same_spec 39 (.tup [.str "row", .int k]) G10 (pdn_told (x := .int k) trivial _)
  refine ⟨some value, some wrong, some (.tup [u, .int k]), some mo10, G10, ?_, d10, (x06.trans x9).trans o10.ext⟩
  unfold g__law_refused_1
  rw [seq_nx (e' := EnvR lp si T pa (some (.int w)) (some value) b c d) (G' := Gb) (by simp [EnvR, ea, eb, kb]), seq_nx (e' := EnvR lp si T pa (some (.int w)) (some value) (some wrong) c d) (G' := G2) (by simp [EnvR, e1, bl1, e2, k2]), seq_nx (e' := EnvR lp si T pa (some (.int w)) (some value) (some wrong) c d) (G' := G6) (by simp [EnvR, bl5, t6, s6]),
    seq_nx (e' := EnvR lp si T pa (some (.int w)) (some value) (some wrong) (some (.tup [u, .int k])) d) (G' := G9) (by simp [EnvR, e9]), seq_nx (e' := EnvR lp si T pa (some (.int w)) (some value) (some wrong) (some (.tup [u, .int k])) (some mo10)) (G' := G10) (by simp [EnvR, e10, k10])]
  simp [EnvR, i0, t11, i1, s11]
theorem refused_spec {ps : List Int} {s lp : Nat} {si T : Int} {c : List (Nat × Nat)} {G : Gp} (q : Qs ps s si T c) (hlp : 0 < lp) (hp : G[lp]? = some (.lst (ps.map .int))) (hD : Dr G) : ∃ G', F__law_refused [.ref 0, .ref lp, .int si, .int T] G = .ok (.bl true) G' ∧ Dr G' ∧ Ext G G' := by
  rw [run__law_refused]
  obtain ⟨G1, e1, x1⟩ := paper_spec q.ok hp q.s2 q.ch
  rw [← q.hs] at e1
  generalize U.tup (c.map prU) = pa at e1
  have L : ∃ (w a b c d : Option U) (G2 : Gp), sFor (iOfs (aCons (eC (.int 3)) aNil) kRng1) (gNm 5) g__law_refused_1 (EnvR lp si T pa none none none none none) G1 = .nx (EnvR lp si T pa w a b c d) G2 ∧ Dr G2 ∧ Ext G G2 := by
    refine sFor_rng1 (j := 3) (G1 := G1) (fun i ev G' => ∃ (w a b c d : Option U), ev = EnvR lp si T pa w a b c d ∧ Dr G' ∧ Ext G G') (fun r => ∃ (w a b c d : Option U) (G2 : Gp), r = .nx (EnvR lp si T pa w a b c d) G2 ∧ Dr G2 ∧ Ext G G2) (by simp) (by decide) (by decide) ⟨_, _, _, _, _, rfl, x1.dr hD, x1.ext⟩ ?_ ?_
    · intro i hi ev G' hI
      obtain ⟨w0, a, b, c, d, e1, d1, x1⟩ := hI
      subst e1
      have hi : i < 3 := hi
      obtain ⟨w, hw⟩ : ∃ w : Int, w = (i : Int) := ⟨_, rfl⟩
      have hw3 : W3 w := by unfold W3; omega
      rw [← hw]
      have se : (EnvR lp si T pa w0 a b c d).set 5 (some (.int w)) = EnvR lp si T pa (some (.int w)) a b c d := rfl
      obtain ⟨a', b', c', d', G2, e2, d2, x2⟩ := refused_in (si := si) (T := T) (pa := pa) (a := a) (b := b) (c := c) (d := d) hw3 q.ok hlp (x1.at_ hlp hp) d1
      rw [gNm_, r_then_ok, se, e2]
      exact ⟨_, _, _, _, _, rfl, d2, x1.trans x2⟩
    · intro ev G' hI
      obtain ⟨w0, a, b, c, d, e1, d1, x1⟩ := hI
      subst e1
      exact ⟨w0, a, b, c, d, G', rfl, d1, x1⟩
  obtain ⟨w, a, b, c, d, G2, L, d2, x2⟩ := L
  refine ⟨G2, ?_, d2, x2⟩
  unfold g__law_refused
  rw [seq_nx (e' := EnvR lp si T pa none none none none none) (G' := G1) (by simp [EnvR, e1]), seq_nx L]
  rfl
end K02

set_option Elab.async false
set_option linter.all false
set_option maxRecDepth 100000
set_option maxHeartbeats 4000000
set_option autoImplicit false
namespace K02
open PySem PySem.Spec L2 FL

theorem qs_ex {ps : List Int} {s : Nat} {si : Int} (ok : OkP ps) (h1 : 1 ≤ s) (h2 : s ≤ ps.length) (hs : si = (s : Int)) : ∃ c, Qs ps s si (D ps (s - 1) ps.length) c := by
  have ht := least_isTop ok.pos ok.ne h1 h2
  have hT1 : 1 ≤ D ps (s - 1) ps.length := by
    have := ht.1
    have := ok.pos _ (maxL_spec ok.ne).1
    omega
  obtain ⟨c, hc⟩ := chn_top ok.pos ok.ne ht hT1
  exact ⟨c, ok, h1, h2, hs, ht, hT1, hc⟩
theorem pdn_pa {c : List (Nat × Nat)} (h : c.length ≤ 1000) : PDn 38 (.tup (c.map prU)) := ⟨by rw [List.length_map]; exact h, fun x hx => by
  obtain ⟨p, _, rfl⟩ := List.mem_map.mp hx
  exact ⟨by simp, fun y hy => by
    simp only [List.mem_cons, List.not_mem_nil, or_false] at hy
    rcases hy with rfl | rfl <;> trivial⟩⟩
theorem told_pa {ps : List Int} {s : Nat} {si T : Int} {c : List (Nat × Nat)} {u : U} {G : Gp} (q : Qs ps s si T c) (hu : isSeq u (ps.map .int) G) : ∃ G', F__law_told [.int 1, u, .int si, .int 0, .non] G = .ok (.tup [.str "told", .tup (c.map prU)]) G' ∧ Ex0 G G' := by
  obtain ⟨G', e, x⟩ := top_paper_ok hu q.ok q.s1 q.s2 q.top q.ch
  rw [← q.hs] at e
  exact ⟨G', told_ok (by rw [called_paper]; exact e), x⟩
theorem told_le {ps : List Int} {s : Nat} {si T : Int} {c : List (Nat × Nat)} {u : U} {G : Gp} (q : Qs ps s si T c) (hu : isSeq u (ps.map .int) G) : F__law_told [.int 0, u, .int si, .int 0, .non] G = .ok (.tup [.str "told", .int T]) G := by
  obtain ⟨T', e, hT⟩ := least_ok hu q.ok q.s1 q.s2
  rw [isTop_unique hT q.top, ← q.hs] at e
  exact told_ok (by rw [called_least]; exact e)
theorem law_true (ns : List Int) (h1 : ns.length ≤ 63) (h2 : ∀ z ∈ ns, Builtin.Int.intBits z ≤ 1048576) : ∃ G', F_law [.rl (ns.map U.int)] [] = .ok (.bl true) G' := by
  rw [run_law]
  obtain ⟨G1, e1, _, d1⟩ := draws_spec h1 h2
  obtain ⟨lp, G2, ps, e2, p2, hlp, ok, d2, _⟩ := prices_spec d1
  have n1 := ok.1
  have n14 := ok.2.1
  obtain ⟨ni, hni⟩ : ∃ ni : Int, ni = (ps.length : Int) := ⟨_, rfl⟩
  have bl2 : bLen [.ref lp] G2 = .ok (.int ni) G2 := by rw [hni]; exact blen_ref p2
  obtain ⟨q3, G3, e3, a3, b3, o3, d3⟩ := next_spec (b := ni) d2 (by omega)
  obtain ⟨q4, G4, e4, a4, b4, o4, d4⟩ := next_spec (b := 4) d3 (by decide)
  have p4 := (o3.ext.trans o4.ext).at_ hlp p2
  obtain ⟨si, hsi⟩ : ∃ si : Int, si = if q4 = 0 then 1 else 1 + q3 := ⟨_, rfl⟩
  obtain ⟨s, hs⟩ : ∃ s : Nat, si = (s : Int) := ⟨si.toNat, by split at hsi <;> omega⟩
  have s1 : 1 ≤ s := by split at hsi <;> omega
  have s2 : s ≤ ps.length := by split at hsi <;> omega
  obtain ⟨c, q⟩ := qs_ex ok s1 s2 hs
  obtain ⟨G5, e5, x5⟩ := least_spec ok p4 s1 s2
  rw [← hs] at e5
  obtain ⟨T, hT⟩ : ∃ T, T = D ps (s - 1) ps.length := ⟨_, rfl⟩
  rw [← hT] at q e5
  have p5 := x5.at_ p4
  have bl5 : bList [.ref lp] G5 = .ok (.ref G5.length) (G5 ++ [.lst (ps.map .int)]) := bList_seq (seqU_of p5)
  obtain ⟨lo, hlo⟩ : ∃ lo, lo = G5.length := ⟨_, rfl⟩
  have d5 := x5.dr d4
  have hlo0 : 0 < lo := by rw [hlo]; exact d5.len
  obtain ⟨G6, hG6⟩ : ∃ G6, G6 = G5 ++ [OU.lst (ps.map .int)] := ⟨_, rfl⟩
  have x6 : Ex0 G5 G6 := by rw [hG6]; exact ex0_push _ _
  have o6 : G6[lo]? = some (.lst (ps.map .int)) := by rw [hG6, hlo]; exact push_at _ _
  rw [← hG6, ← hlo] at bl5
  have p6 := x6.at_ p5
  obtain ⟨G7, e7, x7⟩ := paper_spec ok p6 s2 q.ch
  rw [← hs] at e7
  have o7 := x7.at_ o6
  have p7 := x7.at_ p6
  obtain ⟨G8, t8, x8⟩ := told_pa q (.inr ⟨_, rfl, o7⟩ : isSeq (.ref lo) (ps.map .int) G7)
  have hcl : c.length ≤ 1000 := by rw [chn_len _ _ _ q.ch]; omega
  have s8 := same_spec 39 _ G8 (pdn_told (pdn_pa hcl) "told")
  have o8 := x8.at_ o7
  have p8 := x8.at_ p7
  have eq8 : FL.eqU G8 (.ref lo) (.ref lp) = some true := by rw [eqU_refs o8 p8]; simp
  have bt8 : bTuple [.ref lp] G8 = .ok (.tup (ps.map .int)) G8 := bTuple_seq (seqU_of p8)
  obtain ⟨G9, t9, x9⟩ := told_pa q (.inl rfl : isSeq (.tup (ps.map .int)) (ps.map .int) G8)
  have s9 := same_spec 39 _ G9 (pdn_told (pdn_pa hcl) "told")
  have o9 := x9.at_ o8
  have p9 := x9.at_ p8
  have t10 := told_le q (.inr ⟨_, rfl, o9⟩ : isSeq (.ref lo) (ps.map .int) G9)
  have s10 := same_spec 39 _ G9 (pdn_told (x := .int T) trivial "told")
  have eq9 : FL.eqU G9 (.ref lo) (.ref lp) = some true := by rw [eqU_refs o9 p9]; simp
  have d9 := (((x6.trans x7).trans x8).trans x9).dr d5
  obtain ⟨G10, e10, d10, x10⟩ := papers_right q hlp p9 d9
  have p10 := x10.at_ hlp p9
  obtain ⟨G11, e11, d11, x11⟩ := refused_spec q hlp p10 d10
  have p11 := x11.at_ hlp p10
  have o11 := (x10.trans x11).at_ hlo0 o9
  obtain ⟨q12, G12, e12, a12, b12, o12, d12⟩ := next_spec (b := 1000) d11 (by decide)
  have bl12 : bLen [.ref lo] G12 = .ok (.int ni) G12 := by rw [hni]; exact blen_ref (o12.ext.at_ hlo0 o11)
  obtain ⟨q13, G13, e13, a13, b13, o13, d13⟩ := next_spec (b := ni) d12 (by omega)
  have o13' := (o12.ext.trans o13.ext).at_ hlo0 o11
  have p13 := (o12.ext.trans o13.ext).at_ hlp p11
  have su := setU_ref (G := G13) (v := .int (1 + q12)) o13' a13 (by simp; omega)
  obtain ⟨ps2, hps2⟩ : ∃ ps2, ps2 = ps.set q13.toNat (1 + q12) := ⟨_, rfl⟩
  have hmap : (ps.map U.int).set q13.toNat (.int (1 + q12)) = ps2.map .int := by rw [hps2, List.map_set]
  rw [hmap] at su
  obtain ⟨G14, hG14⟩ : ∃ G14, G14 = G13.set lo (.lst (ps2.map .int)) := ⟨_, rfl⟩
  rw [← hG14] at su
  have o14 : G14[lo]? = some (.lst (ps2.map .int)) := by rw [hG14]; exact set_get o13'
  have hne : lo ≠ lp := by
    have := (List.getElem?_eq_some_iff.mp p5).1
    omega
  have p14 : G14[lp]? = some (.lst (ps.map .int)) := by rw [hG14, List.getElem?_set_ne hne]; exact p13
  have ok2 : OkP ps2 := ⟨by rw [hps2]; simpa using ok.1, by rw [hps2]; simpa using ok.2.1, fun x hx => by
    rw [hps2] at hx
    rcases List.mem_or_eq_of_mem_set hx with hx | hx
    · exact ok.2.2 x hx
    · omega⟩
  have s22 : s ≤ ps2.length := by rw [hps2]; simpa using s2
  obtain ⟨c2, q2⟩ := qs_ex ok2 s1 s22 hs
  have bl14 : bList [.ref lo] G14 = .ok (.ref G14.length) (G14 ++ [.lst (ps2.map .int)]) := bList_seq (seqU_of o14)
  obtain ⟨G15, hG15⟩ : ∃ G15, G15 = G14 ++ [OU.lst (ps2.map .int)] := ⟨_, rfl⟩
  have x15 : Ex0 G14 G15 := by rw [hG15]; exact ex0_push _ _
  have r15 : G15[G14.length]? = some (.lst (ps2.map .int)) := by rw [hG15]; exact push_at _ _
  rw [← hG15] at bl14
  have o15 := x15.at_ o14
  have bl15 : bList [.ref lo] G15 = .ok (.ref G15.length) (G15 ++ [.lst (ps2.map .int)]) := bList_seq (seqU_of o15)
  obtain ⟨G16, hG16⟩ : ∃ G16, G16 = G15 ++ [OU.lst (ps2.map .int)] := ⟨_, rfl⟩
  have x16 : Ex0 G15 G16 := by rw [hG16]; exact ex0_push _ _
  have r16 : G16[G15.length]? = some (.lst (ps2.map .int)) := by rw [hG16]; exact push_at _ _
  rw [← hG16] at bl15
  obtain ⟨G17, e17, x17⟩ := least_spec ok2 r16 s1 s22
  rw [← hs] at e17
  obtain ⟨T2, hT2⟩ : ∃ T2, T2 = D ps2 (s - 1) ps2.length := ⟨_, rfl⟩
  rw [← hT2] at q2 e17
  obtain ⟨G18, e18, x18⟩ := paper_spec ok2 ((x16.trans x17).at_ r15) s22 q2.ch
  rw [← hs] at e18
  have o18 := ((x16.trans x17).trans x18).at_ o15
  have p18 := (((x15.trans x16).trans x17).trans x18).at_ p14
  obtain ⟨G19, t19, x19⟩ := told_pa q2 (.inr ⟨_, rfl, o18⟩ : isSeq (.ref lo) (ps2.map .int) G18)
  have hcl2 : c2.length ≤ 1000 := by rw [chn_len _ _ _ q2.ch]; omega
  have s19 := same_spec 39 _ G19 (pdn_told (pdn_pa hcl2) "told")
  have p19 := x19.at_ p18
  have bl19 : bLen [.ref lp] G19 = .ok (.int ni) G19 := by rw [hni]; exact blen_ref p19
  generalize hxs : ns.map U.int = xs at e1 ⊢
  obtain ⟨pa, hpa⟩ : ∃ pa, pa = U.tup (c.map prU) := ⟨_, rfl⟩
  obtain ⟨pb, hpb⟩ : ∃ pb, pb = U.tup (c2.map prU) := ⟨_, rfl⟩
  rw [← hpa] at e7 t8 s8 t9 s9
  rw [← hpb] at e18 t19 s19
  have st20 : ∃ (l : Nat) (G20 : Gp) (pz : List Int), sIf (bVal (eBin gGt (eCall bLen (aCons (eVar 2) aNil)) (eC (.int 4)))) (sAsg (eSl (eVar 2) pNo (pInt (eC (.int 4)))) (gNm 2)) sNil [some (.rl xs), some (.ref 0), some (.ref lp), some (.int si), some (.int T), some (.ref lo), some pa, some pb] G19 = .nx [some (.rl xs), some (.ref 0), some (.ref l), some (.int si), some (.int T), some (.ref lo), some pa, some pb] G20 ∧ OkP pz ∧ G20[l]? = some (.lst (pz.map .int)) := by
    by_cases hc : 4 < ni
    · obtain ⟨cs, hcs⟩ : ∃ cs, cs = cutU ps none (some 4) := ⟨_, rfl⟩
      have sl : gSl (.ref lp) none (some 4) G19 = .ok (.ref G19.length) (G19 ++ [.lst (cs.map .int)]) := by
        unfold gSl
        simp only [p19]
        rw [cutU_map, hcs]
      refine ⟨G19.length, G19 ++ [.lst (cs.map .int)], cs, by simp [bl19, hc, sl], ⟨?_, ?_, fun x hx => ?_⟩, push_at _ _⟩
      · have e4 : cs = ps.take 4 := by
          rw [hcs]
          unfold cutU
          have h4 : HT.sIx ps.length ps.length (some (4 : Int)) = min 4 ps.length := HT.sIx_nat ..
          rw [HT.sIx_none, h4]
          simp only [List.drop_zero, Nat.sub_zero]
          rw [Nat.min_eq_left (by omega)]
        rw [e4, List.length_take]
        omega
      · rw [hcs]
        have := cutU_len ps none (some 4)
        omega
      · rw [hcs] at hx
        exact ok.2.2 x (cutU_mem hx)
    · exact ⟨lp, G19, ps, by simp [bl19, hc], ok, p19⟩
  obtain ⟨l, G20, pz, st20, okz, pz20⟩ := st20
  have bs20 : bSum [.ref l] G20 = .ok (.int pz.sum) G20 := bInts_seq (seqU_of pz20) (fun h => nomatch h.1)
  obtain ⟨G21, e21⟩ := small_right (T := pz.sum) okz pz20
  refine ⟨G21, ?_⟩
  generalize pz.sum = zs at bs20 e21
  let E (a b c d e f : Option U) : Ev := [some (.rl xs), some (.ref 0), a, b, c, d, e, f]
  unfold g_law
  rw [seq_nx (e' := E none none none none none none) (G' := G1) (by simp [E, e1]), seq_nx (e' := E (some (.ref lp)) none none none none none) (G' := G2) (by simp [E, e2]), seq_nx (e' := E (some (.ref lp)) (some (.int (1 + q3))) none none none none) (G' := G3) (by simp [E, bl2, e3]),
    seq_nx (e' := E (some (.ref lp)) (some (.int si)) none none none none) (G' := G4) (by
      rw [hsi]
      by_cases z : q4 = 0
      · simp [E, e4, z]
      · simp [E, e4, z]),
    seq_nx (e' := E (some (.ref lp)) (some (.int si)) (some (.int T)) none none none) (G' := G5) (by simp [E, e5]), seq_nx (e' := E (some (.ref lp)) (some (.int si)) (some (.int T)) (some (.ref lo)) none none) (G' := G6) (by simp [E, bl5]), seq_nx (e' := E (some (.ref lp)) (some (.int si)) (some (.int T)) (some (.ref lo)) (some pa) none) (G' := G7) (by simp [E, e7]),
    seq_nx (e' := E (some (.ref lp)) (some (.int si)) (some (.int T)) (some (.ref lo)) (some pa) none) (G' := G8) (by simp [E, t8, s8, eq8]), seq_nx (e' := E (some (.ref lp)) (some (.int si)) (some (.int T)) (some (.ref lo)) (some pa) none) (G' := G9) (by simp [E, bt8, t9, s9]), seq_nx (e' := E (some (.ref lp)) (some (.int si)) (some (.int T)) (some (.ref lo)) (some pa) none) (G' := G9) (by simp [E, t10, s10, eq9]),
    seq_nx (e' := E (some (.ref lp)) (some (.int si)) (some (.int T)) (some (.ref lo)) (some pa) none) (G' := G11) (by simp [E, e10, e11]), seq_nx (e' := E (some (.ref lp)) (some (.int si)) (some (.int T)) (some (.ref lo)) (some pa) none) (G' := G14) (by simp [E, e12, bl12, e13, su]), seq_nx (e' := E (some (.ref lp)) (some (.int si)) (some (.int T)) (some (.ref lo)) (some pa) (some pb)) (G' := G18) (by simp [E, bl14, bl15, e17, e18]),
    seq_nx (e' := E (some (.ref lp)) (some (.int si)) (some (.int T)) (some (.ref lo)) (some pa) (some pb)) (G' := G19) (by simp [E, t19, s19]), seq_nx st20]
  simp [bs20, e21]
end K02

set_option Elab.async false
set_option linter.all false
set_option maxRecDepth 100000
set_option maxHeartbeats 8000000
set_option autoImplicit false

namespace K02
open PySem PySem.Spec L2 FL
def top (i : Nat) : Stmt := PySem.Challenge.pw_everydealt_k02_whole_papers_of_tops.main.body.getD i (.Pass ⟨0, 0, 0, 0⟩)
abbrev s__law_draws : Stmt := top 24
abbrev s__law_next : Stmt := top 25
abbrev s__law_prices : Stmt := top 27
abbrev s__law_least : Stmt := top 28
abbrev s__law_paper : Stmt := top 29
abbrev s__law_is_integer : Stmt := top 31
abbrev s__law_holds : Stmt := top 32
abbrev s__law_same : Stmt := top 26
abbrev s_is_integer : Stmt := top 7
abbrev s_is_from_to : Stmt := top 8
abbrev s_checked_row : Stmt := top 10
abbrev s_checked_costs : Stmt := top 14
abbrev s_check_number : Stmt := top 9
abbrev s_checked_cut : Stmt := top 15
abbrev s_is_pair_of : Stmt := top 21
abbrev s_top_paper_holds : Stmt := top 22
abbrev s_stages_needed : Stmt := top 16
abbrev s_top_needed : Stmt := top 17
abbrev s_least_top : Stmt := top 18
abbrev s_shortest_from : Stmt := top 19
abbrev s_top_paper : Stmt := top 20
abbrev s__law_called : Stmt := top 35
abbrev s__law_told : Stmt := top 36
abbrev s__law_judged : Stmt := top 37
abbrev s__law_small_right : Stmt := top 39
abbrev s__law_free_paper : Stmt := top 30
abbrev s__law_odd : Stmt := top 33
abbrev s__law_changed : Stmt := top 34
abbrev s__law_papers_right : Stmt := top 38
abbrev s__law_bad_costs : Stmt := top 40
abbrev s__law_refused : Stmt := top 41
abbrev s_law : Stmt := top 42
abbrev s_InvalidNumber : Stmt := inClass (top 2) 0
abbrev s_InvalidRow : Stmt := inClass (top 3) 0
def exN : List Str := ["DealError", "InvalidNumber", "InvalidRow"]
def exK : List (List Str) := [["InvalidLot", "InvalidLoad"], ["InvalidNumber", "InvalidLot", "InvalidLoad"]]
def exF : List Str := ["number", "place"]
structure EV (K : PySem.W.Frag) (mg : Str → Option Value) : Type where
  fd__law_draws : FuncData
  D__law_draws : FunD K "_law_draws" "_law_draws" (defArgs s__law_draws) (defBody s__law_draws) (defScope s__law_draws) [] [] (He.ga K "_law_draws") fd__law_draws
  g__law_draws : mg "_law_draws" = some (.ref (He.ga K "_law_draws"))
  fd__law_next : FuncData
  D__law_next : FunD K "_law_next" "_law_next" (defArgs s__law_next) (defBody s__law_next) (defScope s__law_next) [] [] (He.ga K "_law_next") fd__law_next
  g__law_next : mg "_law_next" = some (.ref (He.ga K "_law_next"))
  fd__law_prices : FuncData
  D__law_prices : FunD K "_law_prices" "_law_prices" (defArgs s__law_prices) (defBody s__law_prices) (defScope s__law_prices) [] [] (He.ga K "_law_prices") fd__law_prices
  g__law_prices : mg "_law_prices" = some (.ref (He.ga K "_law_prices"))
  fd__law_least : FuncData
  D__law_least : FunD K "_law_least" "_law_least" (defArgs s__law_least) (defBody s__law_least) (defScope s__law_least) [] [] (He.ga K "_law_least") fd__law_least
  g__law_least : mg "_law_least" = some (.ref (He.ga K "_law_least"))
  fd__law_paper : FuncData
  D__law_paper : FunD K "_law_paper" "_law_paper" (defArgs s__law_paper) (defBody s__law_paper) (defScope s__law_paper) [] [] (He.ga K "_law_paper") fd__law_paper
  g__law_paper : mg "_law_paper" = some (.ref (He.ga K "_law_paper"))
  fd__law_is_integer : FuncData
  D__law_is_integer : FunD K "_law_is_integer" "_law_is_integer" (defArgs s__law_is_integer) (defBody s__law_is_integer) (defScope s__law_is_integer) [] [] (He.ga K "_law_is_integer") fd__law_is_integer
  g__law_is_integer : mg "_law_is_integer" = some (.ref (He.ga K "_law_is_integer"))
  fd__law_holds : FuncData
  D__law_holds : FunD K "_law_holds" "_law_holds" (defArgs s__law_holds) (defBody s__law_holds) (defScope s__law_holds) [] [] (He.ga K "_law_holds") fd__law_holds
  g__law_holds : mg "_law_holds" = some (.ref (He.ga K "_law_holds"))
  fd__law_same : FuncData
  D__law_same : FunD K "_law_same" "_law_same" (defArgs s__law_same) (defBody s__law_same) (defScope s__law_same) [] [] (He.ga K "_law_same") fd__law_same
  g__law_same : mg "_law_same" = some (.ref (He.ga K "_law_same"))
  fd_is_integer : FuncData
  D_is_integer : FunD K "is_integer" "is_integer" (defArgs s_is_integer) (defBody s_is_integer) (defScope s_is_integer) [] [] (He.ga K "is_integer") fd_is_integer
  g_is_integer : mg "is_integer" = some (.ref (He.ga K "is_integer"))
  fd_is_from_to : FuncData
  D_is_from_to : FunD K "is_from_to" "is_from_to" (defArgs s_is_from_to) (defBody s_is_from_to) (defScope s_is_from_to) [] [] (He.ga K "is_from_to") fd_is_from_to
  g_is_from_to : mg "is_from_to" = some (.ref (He.ga K "is_from_to"))
  fd_checked_row : FuncData
  D_checked_row : FunD K "checked_row" "checked_row" (defArgs s_checked_row) (defBody s_checked_row) (defScope s_checked_row) [] [] (He.ga K "checked_row") fd_checked_row
  g_checked_row : mg "checked_row" = some (.ref (He.ga K "checked_row"))
  fd_checked_costs : FuncData
  D_checked_costs : FunD K "checked_costs" "checked_costs" (defArgs s_checked_costs) (defBody s_checked_costs) (defScope s_checked_costs) [] [] (He.ga K "checked_costs") fd_checked_costs
  g_checked_costs : mg "checked_costs" = some (.ref (He.ga K "checked_costs"))
  fd_check_number : FuncData
  D_check_number : FunD K "check_number" "check_number" (defArgs s_check_number) (defBody s_check_number) (defScope s_check_number) [] [] (He.ga K "check_number") fd_check_number
  g_check_number : mg "check_number" = some (.ref (He.ga K "check_number"))
  fd_checked_cut : FuncData
  D_checked_cut : FunD K "checked_cut" "checked_cut" (defArgs s_checked_cut) (defBody s_checked_cut) (defScope s_checked_cut) [] [] (He.ga K "checked_cut") fd_checked_cut
  g_checked_cut : mg "checked_cut" = some (.ref (He.ga K "checked_cut"))
  fd_is_pair_of : FuncData
  D_is_pair_of : FunD K "is_pair_of" "is_pair_of" (defArgs s_is_pair_of) (defBody s_is_pair_of) (defScope s_is_pair_of) [] [] (He.ga K "is_pair_of") fd_is_pair_of
  g_is_pair_of : mg "is_pair_of" = some (.ref (He.ga K "is_pair_of"))
  fd_top_paper_holds : FuncData
  D_top_paper_holds : FunD K "top_paper_holds" "top_paper_holds" (defArgs s_top_paper_holds) (defBody s_top_paper_holds) (defScope s_top_paper_holds) [] [] (He.ga K "top_paper_holds") fd_top_paper_holds
  g_top_paper_holds : mg "top_paper_holds" = some (.ref (He.ga K "top_paper_holds"))
  fd_stages_needed : FuncData
  D_stages_needed : FunD K "stages_needed" "stages_needed" (defArgs s_stages_needed) (defBody s_stages_needed) (defScope s_stages_needed) [] [] (He.ga K "stages_needed") fd_stages_needed
  g_stages_needed : mg "stages_needed" = some (.ref (He.ga K "stages_needed"))
  fd_top_needed : FuncData
  D_top_needed : FunD K "top_needed" "top_needed" (defArgs s_top_needed) (defBody s_top_needed) (defScope s_top_needed) [] [] (He.ga K "top_needed") fd_top_needed
  g_top_needed : mg "top_needed" = some (.ref (He.ga K "top_needed"))
  fd_least_top : FuncData
  D_least_top : FunD K "least_top" "least_top" (defArgs s_least_top) (defBody s_least_top) (defScope s_least_top) [] [] (He.ga K "least_top") fd_least_top
  g_least_top : mg "least_top" = some (.ref (He.ga K "least_top"))
  fd_shortest_from : FuncData
  D_shortest_from : FunD K "shortest_from" "shortest_from" (defArgs s_shortest_from) (defBody s_shortest_from) (defScope s_shortest_from) [] [] (He.ga K "shortest_from") fd_shortest_from
  g_shortest_from : mg "shortest_from" = some (.ref (He.ga K "shortest_from"))
  fd_top_paper : FuncData
  D_top_paper : FunD K "top_paper" "top_paper" (defArgs s_top_paper) (defBody s_top_paper) (defScope s_top_paper) [] [] (He.ga K "top_paper") fd_top_paper
  g_top_paper : mg "top_paper" = some (.ref (He.ga K "top_paper"))
  fd__law_called : FuncData
  D__law_called : FunD K "_law_called" "_law_called" (defArgs s__law_called) (defBody s__law_called) (defScope s__law_called) [] [] (He.ga K "_law_called") fd__law_called
  g__law_called : mg "_law_called" = some (.ref (He.ga K "_law_called"))
  fd__law_told : FuncData
  D__law_told : FunD K "_law_told" "_law_told" (defArgs s__law_told) (defBody s__law_told) (defScope s__law_told) [] [] (He.ga K "_law_told") fd__law_told
  g__law_told : mg "_law_told" = some (.ref (He.ga K "_law_told"))
  fd__law_judged : FuncData
  D__law_judged : FunD K "_law_judged" "_law_judged" (defArgs s__law_judged) (defBody s__law_judged) (defScope s__law_judged) [] [] (He.ga K "_law_judged") fd__law_judged
  g__law_judged : mg "_law_judged" = some (.ref (He.ga K "_law_judged"))
  fd__law_small_right : FuncData
  D__law_small_right : FunD K "_law_small_right" "_law_small_right" (defArgs s__law_small_right) (defBody s__law_small_right) (defScope s__law_small_right) [] [] (He.ga K "_law_small_right") fd__law_small_right
  g__law_small_right : mg "_law_small_right" = some (.ref (He.ga K "_law_small_right"))
  fd__law_free_paper : FuncData
  D__law_free_paper : FunD K "_law_free_paper" "_law_free_paper" (defArgs s__law_free_paper) (defBody s__law_free_paper) (defScope s__law_free_paper) [] [] (He.ga K "_law_free_paper") fd__law_free_paper
  g__law_free_paper : mg "_law_free_paper" = some (.ref (He.ga K "_law_free_paper"))
  fd__law_odd : FuncData
  D__law_odd : FunD K "_law_odd" "_law_odd" (defArgs s__law_odd) (defBody s__law_odd) (defScope s__law_odd) [] [] (He.ga K "_law_odd") fd__law_odd
  g__law_odd : mg "_law_odd" = some (.ref (He.ga K "_law_odd"))
  fd__law_changed : FuncData
  D__law_changed : FunD K "_law_changed" "_law_changed" (defArgs s__law_changed) (defBody s__law_changed) (defScope s__law_changed) [] [] (He.ga K "_law_changed") fd__law_changed
  g__law_changed : mg "_law_changed" = some (.ref (He.ga K "_law_changed"))
  fd__law_papers_right : FuncData
  D__law_papers_right : FunD K "_law_papers_right" "_law_papers_right" (defArgs s__law_papers_right) (defBody s__law_papers_right) (defScope s__law_papers_right) [] [] (He.ga K "_law_papers_right") fd__law_papers_right
  g__law_papers_right : mg "_law_papers_right" = some (.ref (He.ga K "_law_papers_right"))
  fd__law_bad_costs : FuncData
  D__law_bad_costs : FunD K "_law_bad_costs" "_law_bad_costs" (defArgs s__law_bad_costs) (defBody s__law_bad_costs) (defScope s__law_bad_costs) [] [] (He.ga K "_law_bad_costs") fd__law_bad_costs
  g__law_bad_costs : mg "_law_bad_costs" = some (.ref (He.ga K "_law_bad_costs"))
  fd__law_refused : FuncData
  D__law_refused : FunD K "_law_refused" "_law_refused" (defArgs s__law_refused) (defBody s__law_refused) (defScope s__law_refused) [] [] (He.ga K "_law_refused") fd__law_refused
  g__law_refused : mg "_law_refused" = some (.ref (He.ga K "_law_refused"))
  fd_law : FuncData
  D_law : FunD K "law" "law" (defArgs s_law) (defBody s_law) (defScope s_law) [] [] (He.ga K "law") fd_law
  g_law : mg "law" = some (.ref (He.ga K "law"))
  fd_InvalidNumber : FuncData
  D_InvalidNumber : FunD K "__init__" "InvalidNumber.__init__" (defArgs s_InvalidNumber) (defBody s_InvalidNumber) (defScope s_InvalidNumber) [] [] (He.ma K (He.ga K "InvalidNumber") "__init__") fd_InvalidNumber
  x_InvalidNumber : ExK K mg "InvalidNumber" (He.ma K (He.ga K "InvalidNumber") "__init__") ["number"]
  fd_InvalidRow : FuncData
  D_InvalidRow : FunD K "__init__" "InvalidRow.__init__" (defArgs s_InvalidRow) (defBody s_InvalidRow) (defScope s_InvalidRow) [] [] (He.ma K (He.ga K "InvalidRow") "__init__") fd_InvalidRow
  x_InvalidRow : ExK K mg "InvalidRow" (He.ma K (He.ga K "InvalidRow") "__init__") ["place"]
  g_DealError : mg "DealError" = some (.ref (He.ga K "DealError"))
  g_InvalidLoad : mg "InvalidLoad" = some (.ref (He.ga K "InvalidLoad"))
  g_InvalidLot : mg "InvalidLot" = some (.ref (He.ga K "InvalidLot"))
  g_InvalidNumber : mg "InvalidNumber" = some (.ref (He.ga K "InvalidNumber"))
  g_InvalidRow : mg "InvalidRow" = some (.ref (He.ga K "InvalidRow"))
  c_MOST_COST : ∃ t, mg "MOST_COST" = some (.int 1000 t)
  c_MOST_COSTS : ∃ t, mg "MOST_COSTS" = some (.int 14 t)
  f_bool : mg "bool" = none
  f_enumerate : mg "enumerate" = none
  f_int : mg "int" = none
  f_isinstance : mg "isinstance" = none
  f_len : mg "len" = none
  f_list : mg "list" = none
  f_max : mg "max" = none
  f_min : mg "min" = none
  f_range : mg "range" = none
  f_str : mg "str" = none
  f_sum : mg "sum" = none
  f_tuple : mg "tuple" = none
  ex : EX K exT exN exK exF
section
variable {P : Program} {w : World} {K : PySem.W.Frag} {mg : Str → Option Value} {base : Heap}
theorem sc_InvalidNumber : FnScope ["self", "number"] ["self", "number"] (defScope s_InvalidNumber) := ⟨rfl, rfl, rfl, by decide +kernel, rfl, by decide +kernel, by decide +kernel⟩
theorem okx_InvalidNumber (E : EV K mg) : FnOk P w K mg base (CX P w) 1 (He.ma K (He.ga K "InvalidNumber") "__init__") E.fd_InvalidNumber ["self", "number"] (spI K (He.ga K "InvalidNumber") ["number"]) :=
  okI1 E.D_InvalidNumber sc_InvalidNumber rfl (fun cdv A outer s H EE => pss_one (ps_ost (pv 0) (pv 1)))
theorem bx_InvalidNumber (E : EV K mg) : Binds K E.fd_InvalidNumber ["self", "number"] [] := E.D_InvalidNumber.bindsN fun _ _ _ _ _ _ us hl => match us, hl with | [_, _], _ => rfl
theorem sc_InvalidRow : FnScope ["self", "place"] ["self", "place"] (defScope s_InvalidRow) := ⟨rfl, rfl, rfl, by decide +kernel, rfl, by decide +kernel, by decide +kernel⟩
theorem okx_InvalidRow (E : EV K mg) : FnOk P w K mg base (CX P w) 1 (He.ma K (He.ga K "InvalidRow") "__init__") E.fd_InvalidRow ["self", "place"] (spI K (He.ga K "InvalidRow") ["place"]) :=
  okI1 E.D_InvalidRow sc_InvalidRow rfl (fun cdv A outer s H EE => pss_one (ps_ost (pv 0) (pv 1)))
theorem bx_InvalidRow (E : EV K mg) : Binds K E.fd_InvalidRow ["self", "place"] [] := E.D_InvalidRow.bindsN fun _ _ _ _ _ _ us hl => match us, hl with | [_, _], _ => rfl
theorem sc__law_draws : FnScope ["script", "draws", "last", "cell", "rest", "k"] ["script"] (defScope s__law_draws) := ⟨rfl, rfl, rfl, by decide +kernel, rfl, by decide +kernel, by decide +kernel⟩
theorem b__law_draws (E : EV K mg) : Binds K E.fd__law_draws ["script"] [] := E.D__law_draws.bindsN fun _ _ _ _ _ _ us hl => match us, hl with | [_], _ => rfl
theorem ok__law_draws (E : EV K mg) : FnF P w K mg base 2 (He.ga K "_law_draws") E.fd__law_draws ["script"] F__law_draws := by
  have sc := sc__law_draws
  refine fnF_of (k := 1) E.D__law_draws sc__law_draws (fun Z hZ X cdv A outer s H EE hX hr => ?_)
  subst hX
  have tk : Takes _ (wE EE) := takes_of (X := cxOf (CX P w) P w K mg base ["script", "draws", "last", "cell", "rest", "k"] "_law_draws" (defScope s__law_draws) (He.ga K "_law_draws") cdv A outer s H EE) rfl rfl rfl rfl
  have hp := passes_of (X := cxOf (CX P w) P w K mg base ["script", "draws", "last", "cell", "rest", "k"] "_law_draws" (defScope s__law_draws) (He.ga K "_law_draws") cdv A outer s H EE) rfl
  exact (fscons (fset (i := 1) sc.nd rfl (Or.inl rfl) (flst fanil)) (fscons (fset (i := 2) sc.nd rfl (Or.inl rfl) fint) (fscons (fsfor hp rfl (fiseq (fslice (fv 0) fono (foint fint))) (fgname (i := 3) sc.nd rfl (Or.inl rfl)) (nxName 3) (fsone (fsif (tge (fv 3) (fpow fint fint)) (fscons (fset (i := 4) sc.nd rfl (Or.inl rfl) (fcint E.f_int (facons (fv 3) fanil))) (fsone (fsfor hp rfl (fir1 (by rfl) E.f_range (facons fint fanil)) (fgname (i := 5) sc.nd rfl (Or.inl rfl)) (nxName 5) (fsone (fsif (tgt (fv 4) fint) (fscons (fexpr (fmeth oAppend PySem.F.slot_list_append rfl mt_append (fv 1) (facons (fmod (fcint E.f_int (facons (fv 4) fanil)) fint) fanil))) (fsone (fset (i := 4) sc.nd rfl (Or.inl rfl) (ffdiv (fv 4) fint)))) fsnil))))) (fscons (fset (i := 2) sc.nd rfl (Or.inl rfl) (fmod (fcint E.f_int (facons (fadd (fadd (fadd (fmul (fv 3) (fv 3)) (fv 3)) (fmul (fv 2) fint)) fint) fanil)) fint)) (fscons (fset (i := 2) sc.nd rfl (Or.inl rfl) (fmod (fcint E.f_int (facons (fadd (fmul (fv 2) (fv 2)) fint) fanil)) fint)) (fsone (fexpr (fmeth oAppend PySem.F.slot_list_append rfl mt_append (fv 1) (facons (fv 2) fanil))))))))) (fscons (fsfor hp rfl (fir1 (by rfl) E.f_range (facons fint fanil)) (fgname (i := 5) sc.nd rfl (Or.inl rfl)) (nxName 5) (fscons (fset (i := 2) sc.nd rfl (Or.inl rfl) (fmod (fcint E.f_int (facons (fadd (fadd (fadd (fmul (fv 2) (fv 2)) (fmul fint (fv 5))) (flen E.f_len (facons (fv 1) fanil))) fint) fanil)) fint)) (fsone (fexpr (fmeth oAppend PySem.F.slot_list_append rfl mt_append (fv 1) (facons (fv 2) fanil)))))) (fsone (fret (fv 1)))))))
theorem sc__law_next : FnScope ["draws", "bound", "one"] ["draws", "bound"] (defScope s__law_next) := ⟨rfl, rfl, rfl, by decide +kernel, rfl, by decide +kernel, by decide +kernel⟩
theorem b__law_next (E : EV K mg) : Binds K E.fd__law_next ["draws", "bound"] [] := E.D__law_next.bindsN fun _ _ _ _ _ _ us hl => match us, hl with | [_, _], _ => rfl
theorem ok__law_next (E : EV K mg) : FnF P w K mg base 2 (He.ga K "_law_next") E.fd__law_next ["draws", "bound"] F__law_next := by
  have sc := sc__law_next
  refine fnF_of (k := 1) E.D__law_next sc__law_next (fun Z hZ X cdv A outer s H EE hX hr => ?_)
  subst hX
  have tk : Takes _ (wE EE) := takes_of (X := cxOf (CX P w) P w K mg base ["draws", "bound", "one"] "_law_next" (defScope s__law_next) (He.ga K "_law_next") cdv A outer s H EE) rfl rfl rfl rfl
  have hp := passes_of (X := cxOf (CX P w) P w K mg base ["draws", "bound", "one"] "_law_next" (defScope s__law_next) (He.ga K "_law_next") cdv A outer s H EE) rfl
  exact (fscons (fset (i := 2) sc.nd rfl (Or.inl rfl) (fmeth oPopAt PySem.F.slot_list_pop rfl mt_popAt (fv 0) (facons fint fanil))) (fscons (fexpr (fmeth oAppend PySem.F.slot_list_append rfl mt_append (fv 0) (facons (fmod (fcint E.f_int (facons (fadd (fadd (fmul (fv 2) (fv 2)) (fmul (fidx (fv 0) (fneg fint)) fint)) fint) fanil)) fint) fanil))) (fsone (fret (fmod (fcint E.f_int (facons (fv 2) fanil)) (fv 1))))))
theorem sc__law_prices : FnScope ["draws", "size", "kind", "price", "prices", "bound", "k"] ["draws"] (defScope s__law_prices) := ⟨rfl, rfl, rfl, by decide +kernel, rfl, by decide +kernel, by decide +kernel⟩
theorem b__law_prices (E : EV K mg) : Binds K E.fd__law_prices ["draws"] [] := E.D__law_prices.bindsN fun _ _ _ _ _ _ us hl => match us, hl with | [_], _ => rfl
theorem ok__law_prices (E : EV K mg) : FnF P w K mg base 3 (He.ga K "_law_prices") E.fd__law_prices ["draws"] F__law_prices := by
  have sc := sc__law_prices
  refine fnF_of (k := 2) E.D__law_prices sc__law_prices (fun Z hZ X cdv A outer s H EE hX hr => ?_)
  subst hX
  have tk : Takes _ (wE EE) := takes_of (X := cxOf (CX P w) P w K mg base ["draws", "size", "kind", "price", "prices", "bound", "k"] "_law_prices" (defScope s__law_prices) (He.ga K "_law_prices") cdv A outer s H EE) rfl rfl rfl rfl
  have hp := passes_of (X := cxOf (CX P w) P w K mg base ["draws", "size", "kind", "price", "prices", "bound", "k"] "_law_prices" (defScope s__law_prices) (He.ga K "_law_prices") cdv A outer s H EE) rfl
  exact (fscons (fset (i := 1) sc.nd rfl (Or.inl rfl) (fadd fint (fcall hZ (ok__law_next E) ar__law_next (hr.mono (by decide)) tk E.g__law_next E.D__law_next.kp (b__law_next E) (facons (fv 0) (facons fint fanil))))) (fscons (fset (i := 2) sc.nd rfl (Or.inl rfl) (fcall hZ (ok__law_next E) ar__law_next (hr.mono (by decide)) tk E.g__law_next E.D__law_next.kp (b__law_next E) (facons (fv 0) (facons fint fanil)))) (fscons (fsif (teq hr.units (fv 2) fint) (fscons (fset (i := 3) sc.nd rfl (Or.inr rfl) (fadd fint (fcall hZ (ok__law_next E) ar__law_next (hr.mono (by decide)) tk E.g__law_next E.D__law_next.kp (b__law_next E) (facons (fv 0) (facons fint fanil))))) (fsone (fret (fcomp hZ rfl sc.nd (fir1 (by rfl) E.f_range (facons (fv 1) fanil)) (blkOk_by (own := [(("k" : Str), 6)]) (by rfl)) (fun _ _ _ _ _ => (fwname (i := 6) sc.nd rfl (Or.inl rfl))) (fun _ _ _ _ _ => ftsnil) (fun _ _ _ _ _ => (fv 3)))))) fsnil) (fscons (fsif (teq hr.units (fv 2) fint) (fscons (fsetcomp (i := 4) hZ rfl sc.nd rfl rfl rfl (fir1 (by rfl) E.f_range (facons (fv 1) fanil)) (blkOk_by (own := [(("k" : Str), 6)]) (by rfl)) (fun _ _ _ _ _ => (fwname (i := 6) sc.nd rfl (Or.inl rfl))) (fun _ _ _ _ _ => ftsnil) (fun _ _ _ _ _ => fint)) (fscons (fasg (fadd fint (fcall hZ (ok__law_next E) ar__law_next (hr.mono (by decide)) tk E.g__law_next E.D__law_next.kp (b__law_next E) (facons (fv 0) (facons fint fanil)))) (fgsub (W := W0) (fv 4) (fcall hZ (ok__law_next E) ar__law_next (hr.mono (by decide)) takesW0 E.g__law_next E.D__law_next.kp (b__law_next E) (facons (fv 0) (facons (fv 1) fanil)))) nxSub) (fsone (fret (fv 4))))) fsnil) (fscons (fset (i := 5) sc.nd rfl (Or.inr rfl) (fidx (ftup (facons fint (facons fint (facons fint (facons fint fanil))))) (fsub (fv 2) fint))) (fsone (fret (fcomp hZ rfl sc.nd (fir1 (by rfl) E.f_range (facons (fv 1) fanil)) (blkOk_by (own := [(("k" : Str), 6)]) (by rfl)) (fun _ _ _ _ _ => (fwname (i := 6) sc.nd rfl (Or.inl rfl))) (fun _ _ _ _ _ => ftsnil) (fun _ _ _ _ _ => (fadd fint (fcall hZ (ok__law_next E) ar__law_next (hr.mono (by decide)) takesW0 E.g__law_next E.D__law_next.kp (b__law_next E) (facons (fv 0) (facons (fv 5) fanil)))))))))))))
theorem sc__law_least : FnScope ["prices", "count", "heaps", "price", "tops", "s", "longer", "e", "b"] ["prices", "count"] (defScope s__law_least) := ⟨rfl, rfl, rfl, by decide +kernel, rfl, by decide +kernel, by decide +kernel⟩
theorem b__law_least (E : EV K mg) : Binds K E.fd__law_least ["prices", "count"] [] := E.D__law_least.bindsN fun _ _ _ _ _ _ us hl => match us, hl with | [_, _], _ => rfl
theorem ok__law_least (E : EV K mg) : FnF P w K mg base 2 (He.ga K "_law_least") E.fd__law_least ["prices", "count"] F__law_least := by
  have sc := sc__law_least
  refine fnF_of (k := 1) E.D__law_least sc__law_least (fun Z hZ X cdv A outer s H EE hX hr => ?_)
  subst hX
  have tk : Takes _ (wE EE) := takes_of (X := cxOf (CX P w) P w K mg base ["prices", "count", "heaps", "price", "tops", "s", "longer", "e", "b"] "_law_least" (defScope s__law_least) (He.ga K "_law_least") cdv A outer s H EE) rfl rfl rfl rfl
  have hp := passes_of (X := cxOf (CX P w) P w K mg base ["prices", "count", "heaps", "price", "tops", "s", "longer", "e", "b"] "_law_least" (defScope s__law_least) (He.ga K "_law_least") cdv A outer s H EE) rfl
  exact (fscons (fset (i := 2) sc.nd rfl (Or.inr rfl) (flst (facons fint fanil))) (fscons (fsfor hp rfl (fiseq (fv 0)) (fgname (i := 3) sc.nd rfl (Or.inl rfl)) (nxName 3) (fsone (fexpr (fmeth oAppend PySem.F.slot_list_append rfl mt_append (fv 2) (facons (fadd (fidx (fv 2) (fneg fint)) (fv 3)) fanil))))) (fscons (fset (i := 4) sc.nd rfl (Or.inr rfl) (fv 2)) (fscons (fsfor hp rfl (fir2 (by rfl) E.f_range (facons fint (facons (fadd (fv 1) fint) fanil))) (fgname (i := 5) sc.nd rfl (Or.inl rfl)) (nxName 5) (fscons (fsetcomp (i := 6) hZ rfl sc.nd rfl rfl rfl (fir1 (by rfl) E.f_range (facons (fv 5) fanil)) (blkOk_by (own := [(("e" : Str), 7)]) (by rfl)) (fun _ _ _ _ _ => (fwname (i := 7) sc.nd rfl (Or.inl rfl))) (fun _ _ _ _ _ => ftsnil) (fun _ _ _ _ _ => (fidx (fv 2) (fneg fint)))) (fscons (fsfor hp rfl (fir2 (by rfl) E.f_range (facons (fv 5) (facons (flen E.f_len (facons (fv 2) fanil)) fanil))) (fgname (i := 7) sc.nd rfl (Or.inr rfl)) (nxName 7) (fsone (fexpr (fmeth oAppend PySem.F.slot_list_append rfl mt_append (fv 6) (facons (fmin rfl E.f_min (facons (fcomp hZ rfl sc.nd (fir2 (by rfl) E.f_range (facons (fsub (fv 5) fint) (facons (fv 7) fanil))) (blkOk_by (own := [(("b" : Str), 8)]) (by rfl)) (fun _ _ _ _ _ => (fwname (i := 8) sc.nd rfl (Or.inl rfl))) (fun _ _ _ _ _ => ftsnil) (fun _ _ _ _ _ => (fmax2 rfl E.f_max (facons (fidx (fv 4) (fv 8)) (facons (fsub (fidx (fv 2) (fv 7)) (fidx (fv 2) (fv 8))) fanil))))) fanil)) fanil))))) (fsone (fset (i := 4) sc.nd rfl (Or.inr rfl) (fv 6)))))) (fsone (fret (fidx (fv 4) (fneg fint))))))))
theorem sc__law_paper : FnScope ["prices", "count", "least", "paper", "begin", "k", "end", "p"] ["prices", "count", "least"] (defScope s__law_paper) := ⟨rfl, rfl, rfl, by decide +kernel, rfl, by decide +kernel, by decide +kernel⟩
theorem b__law_paper (E : EV K mg) : Binds K E.fd__law_paper ["prices", "count", "least"] [] := E.D__law_paper.bindsN fun _ _ _ _ _ _ us hl => match us, hl with | [_, _, _], _ => rfl
theorem ok__law_paper (E : EV K mg) : FnF P w K mg base 2 (He.ga K "_law_paper") E.fd__law_paper ["prices", "count", "least"] F__law_paper := by
  have sc := sc__law_paper
  refine fnF_of (k := 1) E.D__law_paper sc__law_paper (fun Z hZ X cdv A outer s H EE hX hr => ?_)
  subst hX
  have tk : Takes _ (wE EE) := takes_of (X := cxOf (CX P w) P w K mg base ["prices", "count", "least", "paper", "begin", "k", "end", "p"] "_law_paper" (defScope s__law_paper) (He.ga K "_law_paper") cdv A outer s H EE) rfl rfl rfl rfl
  have hp := passes_of (X := cxOf (CX P w) P w K mg base ["prices", "count", "least", "paper", "begin", "k", "end", "p"] "_law_paper" (defScope s__law_paper) (He.ga K "_law_paper") cdv A outer s H EE) rfl
  exact (fscons (fset (i := 3) sc.nd rfl (Or.inl rfl) (flst fanil)) (fscons (fset (i := 4) sc.nd rfl (Or.inl rfl) fint) (fscons (fsfor hp rfl (fir1 (by rfl) E.f_range (facons (fv 1) fanil)) (fgname (i := 5) sc.nd rfl (Or.inl rfl)) (nxName 5) (fscons (fset (i := 6) sc.nd rfl (Or.inl rfl) (fadd (fv 4) fint)) (fscons (fsfor hp rfl (fir1 (by rfl) E.f_range (facons (flen E.f_len (facons (fv 0) fanil)) fanil)) (fgname (i := 7) sc.nd rfl (Or.inl rfl)) (nxName 7) (fsone (fsif (ft_w (fw_and (tlt (fv 6) (flen E.f_len (facons (fv 0) fanil))) (fw_and1 (tlt (fsum rfl E.f_sum (facons (fslice (fv 0) (foint (fv 4)) (foint (fv 6))) fanil)) (fv 2))))) (fsone (fset (i := 6) sc.nd rfl (Or.inl rfl) (fadd (fv 6) fint))) fsnil))) (fscons (fexpr (fmeth oAppend PySem.F.slot_list_append rfl mt_append (fv 3) (facons (ftup (facons (fv 4) (facons (fv 6) fanil))) fanil))) (fsone (fset (i := 4) sc.nd rfl (Or.inl rfl) (fsub (fv 6) fint))))))) (fsone (fret (fctuple E.f_tuple (facons (fv 3) fanil)))))))
theorem sc__law_is_integer : FnScope ["one"] ["one"] (defScope s__law_is_integer) := ⟨rfl, rfl, rfl, by decide +kernel, rfl, by decide +kernel, by decide +kernel⟩
theorem b__law_is_integer (E : EV K mg) : Binds K E.fd__law_is_integer ["one"] [] := E.D__law_is_integer.bindsN fun _ _ _ _ _ _ us hl => match us, hl with | [_], _ => rfl
theorem ok__law_is_integer (E : EV K mg) : FnF P w K mg base 2 (He.ga K "_law_is_integer") E.fd__law_is_integer ["one"] F__law_is_integer := by
  have sc := sc__law_is_integer
  refine fnF_of (k := 1) E.D__law_is_integer sc__law_is_integer (fun Z hZ X cdv A outer s H EE hX hr => ?_)
  subst hX
  have tk : Takes _ (wE EE) := takes_of (X := cxOf (CX P w) P w K mg base ["one"] "_law_is_integer" (defScope s__law_is_integer) (He.ga K "_law_is_integer") cdv A outer s H EE) rfl rfl rfl rfl
  have hp := passes_of (X := cxOf (CX P w) P w K mg base ["one"] "_law_is_integer" (defScope s__law_is_integer) (He.ga K "_law_is_integer") cdv A outer s H EE) rfl
  exact (fsone (fret (fand (fisInt E.f_isinstance E.f_int (fv 0)) (fone (fnot (fisBool E.f_isinstance E.f_bool (fv 0)))))))
theorem sc__law_holds : FnScope ["prices", "count", "bar", "value", "ahead", "pair"] ["prices", "count", "bar", "value"] (defScope s__law_holds) := ⟨rfl, rfl, rfl, by decide +kernel, rfl, by decide +kernel, by decide +kernel⟩
theorem b__law_holds (E : EV K mg) : Binds K E.fd__law_holds ["prices", "count", "bar", "value"] [] := E.D__law_holds.bindsN fun _ _ _ _ _ _ us hl => match us, hl with | [_, _, _, _], _ => rfl
theorem ok__law_holds (E : EV K mg) : FnF P w K mg base 3 (He.ga K "_law_holds") E.fd__law_holds ["prices", "count", "bar", "value"] F__law_holds := by
  have sc := sc__law_holds
  refine fnF_of (k := 2) E.D__law_holds sc__law_holds (fun Z hZ X cdv A outer s H EE hX hr => ?_)
  subst hX
  have tk : Takes _ (wE EE) := takes_of (X := cxOf (CX P w) P w K mg base ["prices", "count", "bar", "value", "ahead", "pair"] "_law_holds" (defScope s__law_holds) (He.ga K "_law_holds") cdv A outer s H EE) rfl rfl rfl rfl
  have hp := passes_of (X := cxOf (CX P w) P w K mg base ["prices", "count", "bar", "value", "ahead", "pair"] "_law_holds" (defScope s__law_holds) (He.ga K "_law_holds") cdv A outer s H EE) rfl
  exact (fscons (fsif (ft_w (fw_or (ft_not (ft_val (fisTuple E.f_isinstance E.f_tuple (fv 3)))) (fw_or1 (tne hr.units (flen E.f_len (facons (fv 3) fanil)) (fv 1))))) (fsone (fret fbl)) fsnil) (fscons (fset (i := 4) sc.nd rfl (Or.inl rfl) fint) (fscons (fsfor hp rfl (fiseq (fv 3)) (fgname (i := 5) sc.nd rfl (Or.inl rfl)) (nxName 5) (fscons (fsif (ft_w (fw_or (ft_not (ft_val (fisTuple E.f_isinstance E.f_tuple (fv 5)))) (fw_or1 (tne hr.units (flen E.f_len (facons (fv 5) fanil)) fint)))) (fsone (fret fbl)) fsnil) (fscons (fsif (ft_w (fw_or (ft_not (ft_val (fcall hZ (ok__law_is_integer E) ar__law_is_integer (hr.mono (by decide)) tk E.g__law_is_integer E.D__law_is_integer.kp (b__law_is_integer E) (facons (fidx (fv 5) fint) fanil)))) (fw_or1 (ft_not (ft_val (fcall hZ (ok__law_is_integer E) ar__law_is_integer (hr.mono (by decide)) tk E.g__law_is_integer E.D__law_is_integer.kp (b__law_is_integer E) (facons (fidx (fv 5) fint) fanil))))))) (fsone (fret fbl)) fsnil) (fscons (fsif (ft_w (fw_or (tlt (fidx (fv 5) fint) fint) (fw_or (tle (fidx (fv 5) fint) (fidx (fv 5) fint)) (fw_or1 (tgt (fidx (fv 5) fint) (flen E.f_len (facons (fv 0) fanil))))))) (fsone (fret fbl)) fsnil) (fscons (fsif (ft_w (fw_or (tlt (fidx (fv 5) fint) (fsub (fv 4) fint)) (fw_or1 (tlt (fsum rfl E.f_sum (facons (fslice (fv 0) (foint (fidx (fv 5) fint)) (foint (fidx (fv 5) fint))) fanil)) (fv 2))))) (fsone (fret fbl)) fsnil) (fsone (fset (i := 4) sc.nd rfl (Or.inl rfl) (fidx (fv 5) fint)))))))) (fsone (fret fbl)))))
theorem sc__law_same : FnScope ["told", "due", "k"] ["told", "due"] (defScope s__law_same) := ⟨rfl, rfl, rfl, by decide +kernel, rfl, by decide +kernel, by decide +kernel⟩
theorem b__law_same (E : EV K mg) : Binds K E.fd__law_same ["told", "due"] [] := E.D__law_same.bindsN fun _ _ _ _ _ _ us hl => match us, hl with | [_, _], _ => rfl
theorem ok__law_same (E : EV K mg) : ∀ d, FnF P w K mg base (2 + d) (He.ga K "_law_same") E.fd__law_same ["told", "due"] (F__law_same d)
  | 0 => fnF_bad
  | d + 1 => by
    have ih := ok__law_same E d
    have hrec := ar__law_same d
    generalize hq : F__law_same d = rec at ih hrec
    have sc := sc__law_same
    show FnF P w K mg base (2 + d + 1) _ _ _ (defF 2 3 (g__law_same (F__law_same d)))
    rw [hq]
    refine fnF_of E.D__law_same sc__law_same (fun Z hZ X cdv A outer s H EE hX hr => ?_)
    subst hX
    have tk : Takes _ (wE EE) := takes_of (X := cxOf (CX P w) P w K mg base ["told", "due", "k"] "_law_same" (defScope s__law_same) (He.ga K "_law_same") cdv A outer s H EE) rfl rfl rfl rfl
    have hp := passes_of (X := cxOf (CX P w) P w K mg base ["told", "due", "k"] "_law_same" (defScope s__law_same) (He.ga K "_law_same") cdv A outer s H EE) rfl
    exact (fscons (fsif (ft_val (fisTuple E.f_isinstance E.f_tuple (fv 1))) (fscons (fsif (ft_w (fw_or (ft_not (ft_val (fisTuple E.f_isinstance E.f_tuple (fv 0)))) (fw_or1 (tne hr.units (flen E.f_len (facons (fv 0) fanil)) (flen E.f_len (facons (fv 1) fanil)))))) (fsone (fret fbl)) fsnil) (fscons (fsfor hp rfl (fir1 (by rfl) E.f_range (facons (flen E.f_len (facons (fv 1) fanil)) fanil)) (fgname (i := 2) sc.nd rfl (Or.inl rfl)) (nxName 2) (fsone (fsif (ft_not (ft_val (fcall hZ ih hrec (hr.mono (by omega)) tk E.g__law_same E.D__law_same.kp (b__law_same E) (facons (fidx (fv 0) (fv 2)) (facons (fidx (fv 1) (fv 2)) fanil))))) (fsone (fret fbl)) fsnil))) (fsone (fret fbl)))) fsnil) (fscons (fsif (tisN (fv 1) fnon) (fsone (fret (fisN (fv 0) fnon))) fsnil) (fscons (fsif (ft_val (fisBool E.f_isinstance E.f_bool (fv 1))) (fsone (fret (fand (fisBool E.f_isinstance E.f_bool (fv 0)) (fone (feq hr.units (fv 0) (fv 1)))))) fsnil) (fscons (fsif (ft_val (fisInt E.f_isinstance E.f_int (fv 1))) (fsone (fret (fand (fisInt E.f_isinstance E.f_int (fv 0)) (fand (fnot (fisBool E.f_isinstance E.f_bool (fv 0))) (fone (feq hr.units (fv 0) (fv 1))))))) fsnil) (fsone (fret (fand (fisStr E.f_isinstance E.f_str (fv 0)) (fone (feq hr.units (fv 0) (fv 1))))))))))
theorem sc_is_integer : FnScope ["value"] ["value"] (defScope s_is_integer) := ⟨rfl, rfl, rfl, by decide +kernel, rfl, by decide +kernel, by decide +kernel⟩
theorem b_is_integer (E : EV K mg) : Binds K E.fd_is_integer ["value"] [] := E.D_is_integer.bindsN fun _ _ _ _ _ _ us hl => match us, hl with | [_], _ => rfl
theorem ok_is_integer (E : EV K mg) : FnF P w K mg base 2 (He.ga K "is_integer") E.fd_is_integer ["value"] F_is_integer := by
  have sc := sc_is_integer
  refine fnF_of (k := 1) E.D_is_integer sc_is_integer (fun Z hZ X cdv A outer s H EE hX hr => ?_)
  subst hX
  have tk : Takes _ (wE EE) := takes_of (X := cxOf (CX P w) P w K mg base ["value"] "is_integer" (defScope s_is_integer) (He.ga K "is_integer") cdv A outer s H EE) rfl rfl rfl rfl
  have hp := passes_of (X := cxOf (CX P w) P w K mg base ["value"] "is_integer" (defScope s_is_integer) (He.ga K "is_integer") cdv A outer s H EE) rfl
  exact (fsone (fret (fand (fisInt E.f_isinstance E.f_int (fv 0)) (fone (fnot (fisBool E.f_isinstance E.f_bool (fv 0)))))))
theorem sc_is_from_to : FnScope ["value", "least", "most"] ["value", "least", "most"] (defScope s_is_from_to) := ⟨rfl, rfl, rfl, by decide +kernel, rfl, by decide +kernel, by decide +kernel⟩
theorem b_is_from_to (E : EV K mg) : Binds K E.fd_is_from_to ["value", "least", "most"] [] := E.D_is_from_to.bindsN fun _ _ _ _ _ _ us hl => match us, hl with | [_, _, _], _ => rfl
theorem ok_is_from_to (E : EV K mg) : FnF P w K mg base 3 (He.ga K "is_from_to") E.fd_is_from_to ["value", "least", "most"] F_is_from_to := by
  have sc := sc_is_from_to
  refine fnF_of (k := 2) E.D_is_from_to sc_is_from_to (fun Z hZ X cdv A outer s H EE hX hr => ?_)
  subst hX
  have tk : Takes _ (wE EE) := takes_of (X := cxOf (CX P w) P w K mg base ["value", "least", "most"] "is_from_to" (defScope s_is_from_to) (He.ga K "is_from_to") cdv A outer s H EE) rfl rfl rfl rfl
  have hp := passes_of (X := cxOf (CX P w) P w K mg base ["value", "least", "most"] "is_from_to" (defScope s_is_from_to) (He.ga K "is_from_to") cdv A outer s H EE) rfl
  exact (fsone (fret (fand (fcall hZ (ok_is_integer E) ar_is_integer (hr.mono (by decide)) tk E.g_is_integer E.D_is_integer.kp (b_is_integer E) (facons (fv 0) fanil)) (fone (fcleLe (fv 1) (fv 0) (fv 2))))))
theorem sc_checked_row : FnScope ["row", "most_members", "least", "most", "place", "number"] ["row", "most_members", "least", "most"] (defScope s_checked_row) := ⟨rfl, rfl, rfl, by decide +kernel, rfl, by decide +kernel, by decide +kernel⟩
theorem b_checked_row (E : EV K mg) : Binds K E.fd_checked_row ["row", "most_members", "least", "most"] [] := E.D_checked_row.bindsN fun _ _ _ _ _ _ us hl => match us, hl with | [_, _, _, _], _ => rfl
theorem ok_checked_row (E : EV K mg) : FnF P w K mg base 4 (He.ga K "checked_row") E.fd_checked_row ["row", "most_members", "least", "most"] F_checked_row := by
  have sc := sc_checked_row
  refine fnF_of (k := 3) E.D_checked_row sc_checked_row (fun Z hZ X cdv A outer s H EE hX hr => ?_)
  subst hX
  have tk : Takes _ (wE EE) := takes_of (X := cxOf (CX P w) P w K mg base ["row", "most_members", "least", "most", "place", "number"] "checked_row" (defScope s_checked_row) (He.ga K "checked_row") cdv A outer s H EE) rfl rfl rfl rfl
  have hp := passes_of (X := cxOf (CX P w) P w K mg base ["row", "most_members", "least", "most", "place", "number"] "checked_row" (defScope s_checked_row) (He.ga K "checked_row") cdv A outer s H EE) rfl
  exact (fscons (fsif (ft_w (fw_or (ft_not (ft_val (fisTL E.f_isinstance E.f_tuple E.f_list (fv 0)))) (fw_or1 (ft_not (tcleLe fint (flen E.f_len (facons (fv 0) fanil)) (fv 1)))))) (fsone (fraise E.x_InvalidRow (okx_InvalidRow E) (by decide) (bx_InvalidRow E) (hr.mono (by decide)) rfl tk (facons fint fanil))) fsnil) (fscons (fsfor hp rfl (fienum E.f_enumerate (facons (fv 0) fanil)) (fgtup rfl (fgcons (fgname (i := 4) sc.nd rfl (Or.inl rfl)) (fgcons (fgname (i := 5) sc.nd rfl (Or.inl rfl)) fgnil))) (nxTup (nxCons (nxName 4) (nxCons (nxName 5) nxNil))) (fsone (fsif (ft_not (ft_val (fcall hZ (ok_is_from_to E) ar_is_from_to (hr.mono (by decide)) tk E.g_is_from_to E.D_is_from_to.kp (b_is_from_to E) (facons (fv 5) (facons (fv 2) (facons (fv 3) fanil)))))) (fsone (fraise E.x_InvalidRow (okx_InvalidRow E) (by decide) (bx_InvalidRow E) (hr.mono (by decide)) rfl tk (facons (fv 4) fanil))) fsnil))) (fsone (fret (fctuple E.f_tuple (facons (fv 0) fanil))))))
theorem sc_checked_costs : FnScope ["costs"] ["costs"] (defScope s_checked_costs) := ⟨rfl, rfl, rfl, by decide +kernel, rfl, by decide +kernel, by decide +kernel⟩
theorem b_checked_costs (E : EV K mg) : Binds K E.fd_checked_costs ["costs"] [] := E.D_checked_costs.bindsN fun _ _ _ _ _ _ us hl => match us, hl with | [_], _ => rfl
theorem ok_checked_costs (E : EV K mg) : FnF P w K mg base 5 (He.ga K "checked_costs") E.fd_checked_costs ["costs"] F_checked_costs := by
  have sc := sc_checked_costs
  refine fnF_of (k := 4) E.D_checked_costs sc_checked_costs (fun Z hZ X cdv A outer s H EE hX hr => ?_)
  subst hX
  have tk : Takes _ (wE EE) := takes_of (X := cxOf (CX P w) P w K mg base ["costs"] "checked_costs" (defScope s_checked_costs) (He.ga K "checked_costs") cdv A outer s H EE) rfl rfl rfl rfl
  have hp := passes_of (X := cxOf (CX P w) P w K mg base ["costs"] "checked_costs" (defScope s_checked_costs) (He.ga K "checked_costs") cdv A outer s H EE) rfl
  exact (fsone (fret (fcall hZ (ok_checked_row E) ar_checked_row (hr.mono (by decide)) tk E.g_checked_row E.D_checked_row.kp (b_checked_row E) (facons (fv 0) (facons (fglobI rfl E.c_MOST_COSTS) (facons fint (facons (fglobI rfl E.c_MOST_COST) fanil)))))))
theorem sc_check_number : FnScope ["value", "least", "most"] ["value", "least", "most"] (defScope s_check_number) := ⟨rfl, rfl, rfl, by decide +kernel, rfl, by decide +kernel, by decide +kernel⟩
theorem b_check_number (E : EV K mg) : Binds K E.fd_check_number ["value", "least", "most"] [] := E.D_check_number.bindsN fun _ _ _ _ _ _ us hl => match us, hl with | [_, _, _], _ => rfl
theorem ok_check_number (E : EV K mg) : FnF P w K mg base 4 (He.ga K "check_number") E.fd_check_number ["value", "least", "most"] F_check_number := by
  have sc := sc_check_number
  refine fnF_of (k := 3) E.D_check_number sc_check_number (fun Z hZ X cdv A outer s H EE hX hr => ?_)
  subst hX
  have tk : Takes _ (wE EE) := takes_of (X := cxOf (CX P w) P w K mg base ["value", "least", "most"] "check_number" (defScope s_check_number) (He.ga K "check_number") cdv A outer s H EE) rfl rfl rfl rfl
  have hp := passes_of (X := cxOf (CX P w) P w K mg base ["value", "least", "most"] "check_number" (defScope s_check_number) (He.ga K "check_number") cdv A outer s H EE) rfl
  exact (fsone (fsif (ft_not (ft_val (fcall hZ (ok_is_from_to E) ar_is_from_to (hr.mono (by decide)) tk E.g_is_from_to E.D_is_from_to.kp (b_is_from_to E) (facons (fv 0) (facons (fv 1) (facons (fv 2) fanil)))))) (fsone (fraise E.x_InvalidNumber (okx_InvalidNumber E) (by decide) (bx_InvalidNumber E) (hr.mono (by decide)) rfl tk (facons (fv 0) fanil))) fsnil))
theorem sc_checked_cut : FnScope ["costs", "stages", "row"] ["costs", "stages"] (defScope s_checked_cut) := ⟨rfl, rfl, rfl, by decide +kernel, rfl, by decide +kernel, by decide +kernel⟩
theorem b_checked_cut (E : EV K mg) : Binds K E.fd_checked_cut ["costs", "stages"] [] := E.D_checked_cut.bindsN fun _ _ _ _ _ _ us hl => match us, hl with | [_, _], _ => rfl
theorem ok_checked_cut (E : EV K mg) : FnF P w K mg base 6 (He.ga K "checked_cut") E.fd_checked_cut ["costs", "stages"] F_checked_cut := by
  have sc := sc_checked_cut
  refine fnF_of (k := 5) E.D_checked_cut sc_checked_cut (fun Z hZ X cdv A outer s H EE hX hr => ?_)
  subst hX
  have tk : Takes _ (wE EE) := takes_of (X := cxOf (CX P w) P w K mg base ["costs", "stages", "row"] "checked_cut" (defScope s_checked_cut) (He.ga K "checked_cut") cdv A outer s H EE) rfl rfl rfl rfl
  have hp := passes_of (X := cxOf (CX P w) P w K mg base ["costs", "stages", "row"] "checked_cut" (defScope s_checked_cut) (He.ga K "checked_cut") cdv A outer s H EE) rfl
  exact (fscons (fset (i := 2) sc.nd rfl (Or.inl rfl) (fcall hZ (ok_checked_costs E) ar_checked_costs (hr.mono (by decide)) tk E.g_checked_costs E.D_checked_costs.kp (b_checked_costs E) (facons (fv 0) fanil))) (fscons (fexpr (fcall hZ (ok_check_number E) ar_check_number (hr.mono (by decide)) tk E.g_check_number E.D_check_number.kp (b_check_number E) (facons (fv 1) (facons fint (facons (flen E.f_len (facons (fv 2) fanil)) fanil))))) (fsone (fret (fv 2)))))
theorem sc_is_pair_of : FnScope ["row", "value", "top", "begin", "end"] ["row", "value", "top"] (defScope s_is_pair_of) := ⟨rfl, rfl, rfl, by decide +kernel, rfl, by decide +kernel, by decide +kernel⟩
theorem b_is_pair_of (E : EV K mg) : Binds K E.fd_is_pair_of ["row", "value", "top"] [] := E.D_is_pair_of.bindsN fun _ _ _ _ _ _ us hl => match us, hl with | [_, _, _], _ => rfl
theorem ok_is_pair_of (E : EV K mg) : FnF P w K mg base 4 (He.ga K "is_pair_of") E.fd_is_pair_of ["row", "value", "top"] F_is_pair_of := by
  have sc := sc_is_pair_of
  refine fnF_of (k := 3) E.D_is_pair_of sc_is_pair_of (fun Z hZ X cdv A outer s H EE hX hr => ?_)
  subst hX
  have tk : Takes _ (wE EE) := takes_of (X := cxOf (CX P w) P w K mg base ["row", "value", "top", "begin", "end"] "is_pair_of" (defScope s_is_pair_of) (He.ga K "is_pair_of") cdv A outer s H EE) rfl rfl rfl rfl
  have hp := passes_of (X := cxOf (CX P w) P w K mg base ["row", "value", "top", "begin", "end"] "is_pair_of" (defScope s_is_pair_of) (He.ga K "is_pair_of") cdv A outer s H EE) rfl
  exact (fscons (fsif (ft_w (fw_or (ft_not (ft_val (fisTuple E.f_isinstance E.f_tuple (fv 1)))) (fw_or1 (tne hr.units (flen E.f_len (facons (fv 1) fanil)) fint)))) (fsone (fret fbl)) fsnil) (fscons (fasg (fv 1) (fgtup rfl (fgcons (fgname (i := 3) sc.nd rfl (Or.inl rfl)) (fgcons (fgname (i := 4) sc.nd rfl (Or.inl rfl)) fgnil))) (nxTup (nxCons (nxName 3) (nxCons (nxName 4) nxNil)))) (fscons (fsif (ft_w (fw_or (ft_not (ft_val (fcall hZ (ok_is_from_to E) ar_is_from_to (hr.mono (by decide)) tk E.g_is_from_to E.D_is_from_to.kp (b_is_from_to E) (facons (fv 3) (facons fint (facons (fsub (flen E.f_len (facons (fv 0) fanil)) fint) fanil)))))) (fw_or1 (ft_not (ft_val (fcall hZ (ok_is_integer E) ar_is_integer (hr.mono (by decide)) tk E.g_is_integer E.D_is_integer.kp (b_is_integer E) (facons (fv 4) fanil))))))) (fsone (fret fbl)) fsnil) (fscons (fsif (ft_not (tcltLe (fv 3) (fv 4) (flen E.f_len (facons (fv 0) fanil)))) (fsone (fret fbl)) fsnil) (fsone (fret (fge (fsum rfl E.f_sum (facons (fslice (fv 0) (foint (fv 3)) (foint (fv 4))) fanil)) (fv 2))))))))
theorem sc_top_paper_holds : FnScope ["costs", "stages", "top", "value", "row", "ahead", "pair"] ["costs", "stages", "top", "value"] (defScope s_top_paper_holds) := ⟨rfl, rfl, rfl, by decide +kernel, rfl, by decide +kernel, by decide +kernel⟩
theorem b_top_paper_holds (E : EV K mg) : Binds K E.fd_top_paper_holds ["costs", "stages", "top", "value"] [] := E.D_top_paper_holds.bindsN fun _ _ _ _ _ _ us hl => match us, hl with | [_, _, _, _], _ => rfl
theorem ok_top_paper_holds (E : EV K mg) : FnF P w K mg base 7 (He.ga K "top_paper_holds") E.fd_top_paper_holds ["costs", "stages", "top", "value"] F_top_paper_holds := by
  have sc := sc_top_paper_holds
  refine fnF_of (k := 6) E.D_top_paper_holds sc_top_paper_holds (fun Z hZ X cdv A outer s H EE hX hr => ?_)
  subst hX
  have tk : Takes _ (wE EE) := takes_of (X := cxOf (CX P w) P w K mg base ["costs", "stages", "top", "value", "row", "ahead", "pair"] "top_paper_holds" (defScope s_top_paper_holds) (He.ga K "top_paper_holds") cdv A outer s H EE) rfl rfl rfl rfl
  have hp := passes_of (X := cxOf (CX P w) P w K mg base ["costs", "stages", "top", "value", "row", "ahead", "pair"] "top_paper_holds" (defScope s_top_paper_holds) (He.ga K "top_paper_holds") cdv A outer s H EE) rfl
  exact (fscons (fset (i := 4) sc.nd rfl (Or.inl rfl) (fcall hZ (ok_checked_cut E) ar_checked_cut (hr.mono (by decide)) tk E.g_checked_cut E.D_checked_cut.kp (b_checked_cut E) (facons (fv 0) (facons (fv 1) fanil)))) (fscons (fsif (ft_w (fw_or (ft_not (ft_val (fisTuple E.f_isinstance E.f_tuple (fv 3)))) (fw_or1 (tne hr.units (flen E.f_len (facons (fv 3) fanil)) (fv 1))))) (fsone (fret fbl)) fsnil) (fscons (fset (i := 5) sc.nd rfl (Or.inl rfl) fint) (fscons (fsfor hp rfl (fiseq (fv 3)) (fgname (i := 6) sc.nd rfl (Or.inl rfl)) (nxName 6) (fscons (fsif (ft_not (ft_val (fcall hZ (ok_is_pair_of E) ar_is_pair_of (hr.mono (by decide)) tk E.g_is_pair_of E.D_is_pair_of.kp (b_is_pair_of E) (facons (fv 4) (facons (fv 6) (facons (fv 2) fanil)))))) (fsone (fret fbl)) fsnil) (fscons (fsif (tlt (fidx (fv 6) fint) (fsub (fv 5) fint)) (fsone (fret fbl)) fsnil) (fsone (fset (i := 5) sc.nd rfl (Or.inl rfl) (fidx (fv 6) fint)))))) (fsone (fret fbl))))))
theorem sc_stages_needed : FnScope ["row", "top", "many", "left", "cost"] ["row", "top"] (defScope s_stages_needed) := ⟨rfl, rfl, rfl, by decide +kernel, rfl, by decide +kernel, by decide +kernel⟩
theorem b_stages_needed (E : EV K mg) : Binds K E.fd_stages_needed ["row", "top"] [] := E.D_stages_needed.bindsN fun _ _ _ _ _ _ us hl => match us, hl with | [_, _], _ => rfl
theorem ok_stages_needed (E : EV K mg) : FnF P w K mg base 2 (He.ga K "stages_needed") E.fd_stages_needed ["row", "top"] F_stages_needed := by
  have sc := sc_stages_needed
  refine fnF_of (k := 1) E.D_stages_needed sc_stages_needed (fun Z hZ X cdv A outer s H EE hX hr => ?_)
  subst hX
  have tk : Takes _ (wE EE) := takes_of (X := cxOf (CX P w) P w K mg base ["row", "top", "many", "left", "cost"] "stages_needed" (defScope s_stages_needed) (He.ga K "stages_needed") cdv A outer s H EE) rfl rfl rfl rfl
  have hp := passes_of (X := cxOf (CX P w) P w K mg base ["row", "top", "many", "left", "cost"] "stages_needed" (defScope s_stages_needed) (He.ga K "stages_needed") cdv A outer s H EE) rfl
  exact (fscons (fset (i := 2) sc.nd rfl (Or.inl rfl) fint) (fscons (fset (i := 3) sc.nd rfl (Or.inl rfl) fint) (fscons (fsfor hp rfl (fiseq (fv 0)) (fgname (i := 4) sc.nd rfl (Or.inl rfl)) (nxName 4) (fscons (fsif (ft_w (fw_or (teq hr.units (fv 2) fint) (fw_or1 (tgt (fv 4) (fv 3))))) (fscons (fsaugAdd (n := 2) sc.nd rfl (Or.inl rfl) fint) (fsone (fset (i := 3) sc.nd rfl (Or.inl rfl) (fv 1)))) fsnil) (fsone (fsaugSub (n := 3) sc.nd rfl (Or.inl rfl) (fv 4))))) (fsone (fret (fv 2))))))
theorem sc_top_needed : FnScope ["row", "stages", "low", "high", "middle"] ["row", "stages"] (defScope s_top_needed) := ⟨rfl, rfl, rfl, by decide +kernel, rfl, by decide +kernel, by decide +kernel⟩
theorem b_top_needed (E : EV K mg) : Binds K E.fd_top_needed ["row", "stages"] [] := E.D_top_needed.bindsN fun _ _ _ _ _ _ us hl => match us, hl with | [_, _], _ => rfl
theorem ok_top_needed (E : EV K mg) : FnF P w K mg base 3 (He.ga K "top_needed") E.fd_top_needed ["row", "stages"] F_top_needed := by
  have sc := sc_top_needed
  refine fnF_of (k := 2) E.D_top_needed sc_top_needed (fun Z hZ X cdv A outer s H EE hX hr => ?_)
  subst hX
  have tk : Takes _ (wE EE) := takes_of (X := cxOf (CX P w) P w K mg base ["row", "stages", "low", "high", "middle"] "top_needed" (defScope s_top_needed) (He.ga K "top_needed") cdv A outer s H EE) rfl rfl rfl rfl
  have hp := passes_of (X := cxOf (CX P w) P w K mg base ["row", "stages", "low", "high", "middle"] "top_needed" (defScope s_top_needed) (He.ga K "top_needed") cdv A outer s H EE) rfl
  exact (fscons (fset (i := 2) sc.nd rfl (Or.inl rfl) (fmax rfl E.f_max (facons (fv 0) fanil))) (fscons (fset (i := 3) sc.nd rfl (Or.inl rfl) (fsum rfl E.f_sum (facons (fv 0) fanil))) (fscons (fswhile bigN hp (tlt (fv 2) (fv 3)) (fscons (fset (i := 4) sc.nd rfl (Or.inl rfl) (ffdiv (fadd (fv 2) (fv 3)) fint)) (fsone (fsif (tle (fcall hZ (ok_stages_needed E) ar_stages_needed (hr.mono (by decide)) tk E.g_stages_needed E.D_stages_needed.kp (b_stages_needed E) (facons (fv 0) (facons (fv 4) fanil))) (fv 1)) (fsone (fset (i := 3) sc.nd rfl (Or.inl rfl) (fv 4))) (fsone (fset (i := 2) sc.nd rfl (Or.inl rfl) (fadd (fv 4) fint))))))) (fsone (fret (fv 2))))))
theorem sc_least_top : FnScope ["costs", "stages", "row"] ["costs", "stages"] (defScope s_least_top) := ⟨rfl, rfl, rfl, by decide +kernel, rfl, by decide +kernel, by decide +kernel⟩
theorem b_least_top (E : EV K mg) : Binds K E.fd_least_top ["costs", "stages"] [] := E.D_least_top.bindsN fun _ _ _ _ _ _ us hl => match us, hl with | [_, _], _ => rfl
theorem ok_least_top (E : EV K mg) : FnF P w K mg base 7 (He.ga K "least_top") E.fd_least_top ["costs", "stages"] F_least_top := by
  have sc := sc_least_top
  refine fnF_of (k := 6) E.D_least_top sc_least_top (fun Z hZ X cdv A outer s H EE hX hr => ?_)
  subst hX
  have tk : Takes _ (wE EE) := takes_of (X := cxOf (CX P w) P w K mg base ["costs", "stages", "row"] "least_top" (defScope s_least_top) (He.ga K "least_top") cdv A outer s H EE) rfl rfl rfl rfl
  have hp := passes_of (X := cxOf (CX P w) P w K mg base ["costs", "stages", "row"] "least_top" (defScope s_least_top) (He.ga K "least_top") cdv A outer s H EE) rfl
  exact (fscons (fset (i := 2) sc.nd rfl (Or.inl rfl) (fcall hZ (ok_checked_cut E) ar_checked_cut (hr.mono (by decide)) tk E.g_checked_cut E.D_checked_cut.kp (b_checked_cut E) (facons (fv 0) (facons (fv 1) fanil)))) (fsone (fret (fcall hZ (ok_top_needed E) ar_top_needed (hr.mono (by decide)) tk E.g_top_needed E.D_top_needed.kp (b_top_needed E) (facons (fv 2) (facons (fv 1) fanil))))))
theorem sc_shortest_from : FnScope ["row", "begin", "least", "end", "total"] ["row", "begin", "least"] (defScope s_shortest_from) := ⟨rfl, rfl, rfl, by decide +kernel, rfl, by decide +kernel, by decide +kernel⟩
theorem b_shortest_from (E : EV K mg) : Binds K E.fd_shortest_from ["row", "begin", "least"] [] := E.D_shortest_from.bindsN fun _ _ _ _ _ _ us hl => match us, hl with | [_, _, _], _ => rfl
theorem ok_shortest_from (E : EV K mg) : FnF P w K mg base 2 (He.ga K "shortest_from") E.fd_shortest_from ["row", "begin", "least"] F_shortest_from := by
  have sc := sc_shortest_from
  refine fnF_of (k := 1) E.D_shortest_from sc_shortest_from (fun Z hZ X cdv A outer s H EE hX hr => ?_)
  subst hX
  have tk : Takes _ (wE EE) := takes_of (X := cxOf (CX P w) P w K mg base ["row", "begin", "least", "end", "total"] "shortest_from" (defScope s_shortest_from) (He.ga K "shortest_from") cdv A outer s H EE) rfl rfl rfl rfl
  have hp := passes_of (X := cxOf (CX P w) P w K mg base ["row", "begin", "least", "end", "total"] "shortest_from" (defScope s_shortest_from) (He.ga K "shortest_from") cdv A outer s H EE) rfl
  exact (fscons (fset (i := 3) sc.nd rfl (Or.inl rfl) (fv 1)) (fscons (fset (i := 4) sc.nd rfl (Or.inl rfl) fint) (fscons (fswhile bigN hp (tlt (fv 4) (fv 2)) (fscons (fsaugAdd (n := 4) sc.nd rfl (Or.inl rfl) (fidx (fv 0) (fv 3))) (fsone (fsaugAdd (n := 3) sc.nd rfl (Or.inl rfl) fint)))) (fsone (fret (fv 3))))))
theorem sc_top_paper : FnScope ["costs", "stages", "row", "top", "found", "begin", "_", "end"] ["costs", "stages"] (defScope s_top_paper) := ⟨rfl, rfl, rfl, by decide +kernel, rfl, by decide +kernel, by decide +kernel⟩
theorem b_top_paper (E : EV K mg) : Binds K E.fd_top_paper ["costs", "stages"] [] := E.D_top_paper.bindsN fun _ _ _ _ _ _ us hl => match us, hl with | [_, _], _ => rfl
theorem ok_top_paper (E : EV K mg) : FnF P w K mg base 7 (He.ga K "top_paper") E.fd_top_paper ["costs", "stages"] F_top_paper := by
  have sc := sc_top_paper
  refine fnF_of (k := 6) E.D_top_paper sc_top_paper (fun Z hZ X cdv A outer s H EE hX hr => ?_)
  subst hX
  have tk : Takes _ (wE EE) := takes_of (X := cxOf (CX P w) P w K mg base ["costs", "stages", "row", "top", "found", "begin", "_", "end"] "top_paper" (defScope s_top_paper) (He.ga K "top_paper") cdv A outer s H EE) rfl rfl rfl rfl
  have hp := passes_of (X := cxOf (CX P w) P w K mg base ["costs", "stages", "row", "top", "found", "begin", "_", "end"] "top_paper" (defScope s_top_paper) (He.ga K "top_paper") cdv A outer s H EE) rfl
  exact (fscons (fset (i := 2) sc.nd rfl (Or.inl rfl) (fcall hZ (ok_checked_cut E) ar_checked_cut (hr.mono (by decide)) tk E.g_checked_cut E.D_checked_cut.kp (b_checked_cut E) (facons (fv 0) (facons (fv 1) fanil)))) (fscons (fset (i := 3) sc.nd rfl (Or.inl rfl) (fcall hZ (ok_top_needed E) ar_top_needed (hr.mono (by decide)) tk E.g_top_needed E.D_top_needed.kp (b_top_needed E) (facons (fv 2) (facons (fv 1) fanil)))) (fscons (fset (i := 4) sc.nd rfl (Or.inl rfl) (flst fanil)) (fscons (fset (i := 5) sc.nd rfl (Or.inl rfl) fint) (fscons (fsfor hp rfl (fir1 (by rfl) E.f_range (facons (fv 1) fanil)) (fgname (i := 6) sc.nd rfl (Or.inl rfl)) (nxName 6) (fscons (fset (i := 7) sc.nd rfl (Or.inl rfl) (fcall hZ (ok_shortest_from E) ar_shortest_from (hr.mono (by decide)) tk E.g_shortest_from E.D_shortest_from.kp (b_shortest_from E) (facons (fv 2) (facons (fv 5) (facons (fv 3) fanil))))) (fscons (fexpr (fmeth oAppend PySem.F.slot_list_append rfl mt_append (fv 4) (facons (ftup (facons (fv 5) (facons (fv 7) fanil))) fanil))) (fsone (fset (i := 5) sc.nd rfl (Or.inl rfl) (fsub (fv 7) fint)))))) (fsone (fret (fctuple E.f_tuple (facons (fv 4) fanil)))))))))
theorem sc__law_called : FnScope ["which", "prices", "count", "bar", "value"] ["which", "prices", "count", "bar", "value"] (defScope s__law_called) := ⟨rfl, rfl, rfl, by decide +kernel, rfl, by decide +kernel, by decide +kernel⟩
theorem b__law_called (E : EV K mg) : Binds K E.fd__law_called ["which", "prices", "count", "bar", "value"] [] := E.D__law_called.bindsN fun _ _ _ _ _ _ us hl => match us, hl with | [_, _, _, _, _], _ => rfl
theorem ok__law_called (E : EV K mg) : FnF P w K mg base 8 (He.ga K "_law_called") E.fd__law_called ["which", "prices", "count", "bar", "value"] F__law_called := by
  have sc := sc__law_called
  refine fnF_of (k := 7) E.D__law_called sc__law_called (fun Z hZ X cdv A outer s H EE hX hr => ?_)
  subst hX
  have tk : Takes _ (wE EE) := takes_of (X := cxOf (CX P w) P w K mg base ["which", "prices", "count", "bar", "value"] "_law_called" (defScope s__law_called) (He.ga K "_law_called") cdv A outer s H EE) rfl rfl rfl rfl
  have hp := passes_of (X := cxOf (CX P w) P w K mg base ["which", "prices", "count", "bar", "value"] "_law_called" (defScope s__law_called) (He.ga K "_law_called") cdv A outer s H EE) rfl
  exact (fscons (fsif (teq hr.units (fv 0) fint) (fsone (fret (fcall hZ (ok_least_top E) ar_least_top (hr.mono (by decide)) tk E.g_least_top E.D_least_top.kp (b_least_top E) (facons (fv 1) (facons (fv 2) fanil))))) fsnil) (fscons (fsif (teq hr.units (fv 0) fint) (fsone (fret (fcall hZ (ok_top_paper E) ar_top_paper (hr.mono (by decide)) tk E.g_top_paper E.D_top_paper.kp (b_top_paper E) (facons (fv 1) (facons (fv 2) fanil))))) fsnil) (fsone (fret (fcall hZ (ok_top_paper_holds E) ar_top_paper_holds (hr.mono (by decide)) tk E.g_top_paper_holds E.D_top_paper_holds.kp (b_top_paper_holds E) (facons (fv 1) (facons (fv 2) (facons (fv 3) (facons (fv 4) fanil)))))))))
theorem sc__law_told : FnScope ["which", "prices", "count", "bar", "value", "error"] ["which", "prices", "count", "bar", "value"] (defScope s__law_told) := ⟨rfl, rfl, rfl, by decide +kernel, rfl, by decide +kernel, by decide +kernel⟩
theorem b__law_told (E : EV K mg) : Binds K E.fd__law_told ["which", "prices", "count", "bar", "value"] [] := E.D__law_told.bindsN fun _ _ _ _ _ _ us hl => match us, hl with | [_, _, _, _, _], _ => rfl
theorem ok__law_told (E : EV K mg) : FnF P w K mg base 9 (He.ga K "_law_told") E.fd__law_told ["which", "prices", "count", "bar", "value"] F__law_told := by
  have sc := sc__law_told
  refine fnF_of (k := 8) E.D__law_told sc__law_told (fun Z hZ X cdv A outer s H EE hX hr => ?_)
  subst hX
  have tk : Takes _ (wE EE) := takes_of (X := cxOf (CX P w) P w K mg base ["which", "prices", "count", "bar", "value", "error"] "_law_told" (defScope s__law_told) (He.ga K "_law_told") cdv A outer s H EE) rfl rfl rfl rfl
  have hp := passes_of (X := cxOf (CX P w) P w K mg base ["which", "prices", "count", "bar", "value", "error"] "_law_told" (defScope s__law_told) (He.ga K "_law_told") cdv A outer s H EE) rfl
  exact (fsone (fstry (t := exT) hZ rfl rfl sc.nd tk (fun W2 pn2 xe2 tk2 hp2 => (fsone (fret (ftup (facons fstr (facons (fcall hZ (ok__law_called E) ar__law_called (hr.mono (by decide)) tk2 E.g__law_called E.D__law_called.kp (b__law_called E) (facons (fv 0) (facons (fv 1) (facons (fv 2) (facons (fv 3) (facons (fv 4) fanil)))))) fanil)))))) (.as (⟨rfl, by decide, .inl E.g_InvalidRow⟩) (E.ex.hx (by decide)) (i := 5) rfl rfl (fun a oe c fs dd pn hc hz hf => (fscons (fsif (ft_val (fxisT (i := 5) (E.ex.xi c hc) hz hf E.f_isinstance (pcs_cons (pe_glob (v := .ref (He.ga K "InvalidNumber")) rfl E.g_InvalidNumber rfl (by decide)) (pcs_cons (pe_glob (v := .ref (He.ga K "InvalidLot")) rfl E.g_InvalidLot rfl (by decide)) (pcs_cons (pe_glob (v := .ref (He.ga K "InvalidLoad")) rfl E.g_InvalidLoad rfl (by decide)) pcs_nil))) (paired_own ["InvalidNumber", "InvalidLot", "InvalidLoad"]) (E.ex.kit c hc ["InvalidNumber", "InvalidLot", "InvalidLoad"] (by decide)) (by show 3 ≤ sizeLine; rw [line_eq]; decide))) (fsone (fret fnon)) fsnil) (fsone (fret (ftup (facons fstr (facons (fxf (i := 5) (E.ex.xi c hc).xf (E.ex.no c hc _ (by decide)) hz hf) fanil))))))) (.as (⟨rfl, by decide, .inl E.g_InvalidNumber⟩) (E.ex.hx (by decide)) (i := 5) rfl rfl (fun a oe c fs dd pn hc hz hf => (fscons (fsif (ft_val (fxisT (i := 5) (E.ex.xi c hc) hz hf E.f_isinstance (pcs_cons (pe_glob (v := .ref (He.ga K "InvalidLot")) rfl E.g_InvalidLot rfl (by decide)) (pcs_cons (pe_glob (v := .ref (He.ga K "InvalidLoad")) rfl E.g_InvalidLoad rfl (by decide)) pcs_nil)) (paired_own ["InvalidLot", "InvalidLoad"]) (E.ex.kit c hc ["InvalidLot", "InvalidLoad"] (by decide)) (by show 2 ≤ sizeLine; rw [line_eq]; decide))) (fsone (fret fnon)) fsnil) (fsone (fret (ftup (facons fstr (facons (fxf (i := 5) (E.ex.xi c hc).xf (E.ex.no c hc _ (by decide)) hz hf) fanil))))))) (.cons (⟨rfl, by decide, .inl E.g_DealError⟩) (E.ex.hx (by decide)) (fun a oe c fs dd pn hc hz hf => (fsone (fret fnon))) .nil)))))
theorem sc__law_judged : FnScope ["prices", "count", "bar", "value", "due", "own"] ["prices", "count", "bar", "value"] (defScope s__law_judged) := ⟨rfl, rfl, rfl, by decide +kernel, rfl, by decide +kernel, by decide +kernel⟩
theorem b__law_judged (E : EV K mg) : Binds K E.fd__law_judged ["prices", "count", "bar", "value"] [] := E.D__law_judged.bindsN fun _ _ _ _ _ _ us hl => match us, hl with | [_, _, _, _], _ => rfl
theorem ok__law_judged (E : EV K mg) : FnF P w K mg base 43 (He.ga K "_law_judged") E.fd__law_judged ["prices", "count", "bar", "value"] F__law_judged := by
  have sc := sc__law_judged
  refine fnF_of (k := 42) E.D__law_judged sc__law_judged (fun Z hZ X cdv A outer s H EE hX hr => ?_)
  subst hX
  have tk : Takes _ (wE EE) := takes_of (X := cxOf (CX P w) P w K mg base ["prices", "count", "bar", "value", "due", "own"] "_law_judged" (defScope s__law_judged) (He.ga K "_law_judged") cdv A outer s H EE) rfl rfl rfl rfl
  have hp := passes_of (X := cxOf (CX P w) P w K mg base ["prices", "count", "bar", "value", "due", "own"] "_law_judged" (defScope s__law_judged) (He.ga K "_law_judged") cdv A outer s H EE) rfl
  exact (fscons (fset (i := 4) sc.nd rfl (Or.inl rfl) (fcall hZ (ok__law_holds E) ar__law_holds (hr.mono (by decide)) tk E.g__law_holds E.D__law_holds.kp (b__law_holds E) (facons (fv 0) (facons (fv 1) (facons (fv 2) (facons (fv 3) fanil)))))) (fscons (fset (i := 5) sc.nd rfl (Or.inl rfl) (fclist E.f_list (facons (fv 0) fanil))) (fsone (fret (fand (fcall hZ (ok__law_same E 40) (ar__law_same 40) (hr.mono (by decide)) tk E.g__law_same E.D__law_same.kp (b__law_same E) (facons (fcall hZ (ok__law_told E) ar__law_told (hr.mono (by decide)) tk E.g__law_told E.D__law_told.kp (b__law_told E) (facons fint (facons (fv 5) (facons (fv 1) (facons (fv 2) (facons (fv 3) fanil)))))) (facons (ftup (facons fstr (facons (fv 4) fanil))) fanil))) (fone (feq hr.units (fv 5) (fv 0))))))))
theorem sc__law_small_right : FnScope ["prices", "least", "begin", "end", "bar"] ["prices", "least"] (defScope s__law_small_right) := ⟨rfl, rfl, rfl, by decide +kernel, rfl, by decide +kernel, by decide +kernel⟩
theorem b__law_small_right (E : EV K mg) : Binds K E.fd__law_small_right ["prices", "least"] [] := E.D__law_small_right.bindsN fun _ _ _ _ _ _ us hl => match us, hl with | [_, _], _ => rfl
theorem ok__law_small_right (E : EV K mg) : FnF P w K mg base 44 (He.ga K "_law_small_right") E.fd__law_small_right ["prices", "least"] F__law_small_right := by
  have sc := sc__law_small_right
  refine fnF_of (k := 43) E.D__law_small_right sc__law_small_right (fun Z hZ X cdv A outer s H EE hX hr => ?_)
  subst hX
  have tk : Takes _ (wE EE) := takes_of (X := cxOf (CX P w) P w K mg base ["prices", "least", "begin", "end", "bar"] "_law_small_right" (defScope s__law_small_right) (He.ga K "_law_small_right") cdv A outer s H EE) rfl rfl rfl rfl
  have hp := passes_of (X := cxOf (CX P w) P w K mg base ["prices", "least", "begin", "end", "bar"] "_law_small_right" (defScope s__law_small_right) (He.ga K "_law_small_right") cdv A outer s H EE) rfl
  exact (fscons (fsfor hp rfl (fir2 (by rfl) E.f_range (facons (fneg fint) (facons (fadd (flen E.f_len (facons (fv 0) fanil)) fint) fanil))) (fgname (i := 2) sc.nd rfl (Or.inl rfl)) (nxName 2) (fsone (fsfor hp rfl (fir2 (by rfl) E.f_range (facons (fneg fint) (facons (fadd (flen E.f_len (facons (fv 0) fanil)) fint) fanil))) (fgname (i := 3) sc.nd rfl (Or.inl rfl)) (nxName 3) (fsone (fsfor hp rfl (fiseq (ftup (facons (fneg fint) (facons (fv 1) fanil)))) (fgname (i := 4) sc.nd rfl (Or.inl rfl)) (nxName 4) (fsone (fsif (ft_not (ft_val (fcall hZ (ok__law_judged E) ar__law_judged (hr.mono (by decide)) tk E.g__law_judged E.D__law_judged.kp (b__law_judged E) (facons (fv 0) (facons fint (facons (fv 4) (facons (ftup (facons (ftup (facons (fv 2) (facons (fv 3) fanil))) fanil)) fanil))))))) (fsone (fret fbl)) fsnil))))))) (fsone (fret fbl)))
theorem sc__law_free_paper : FnScope ["draws", "prices", "count", "least", "paper", "begin", "k", "end", "p"] ["draws", "prices", "count", "least"] (defScope s__law_free_paper) := ⟨rfl, rfl, rfl, by decide +kernel, rfl, by decide +kernel, by decide +kernel⟩
theorem b__law_free_paper (E : EV K mg) : Binds K E.fd__law_free_paper ["draws", "prices", "count", "least"] [] := E.D__law_free_paper.bindsN fun _ _ _ _ _ _ us hl => match us, hl with | [_, _, _, _], _ => rfl
theorem ok__law_free_paper (E : EV K mg) : FnF P w K mg base 3 (He.ga K "_law_free_paper") E.fd__law_free_paper ["draws", "prices", "count", "least"] F__law_free_paper := by
  have sc := sc__law_free_paper
  refine fnF_of (k := 2) E.D__law_free_paper sc__law_free_paper (fun Z hZ X cdv A outer s H EE hX hr => ?_)
  subst hX
  have tk : Takes _ (wE EE) := takes_of (X := cxOf (CX P w) P w K mg base ["draws", "prices", "count", "least", "paper", "begin", "k", "end", "p"] "_law_free_paper" (defScope s__law_free_paper) (He.ga K "_law_free_paper") cdv A outer s H EE) rfl rfl rfl rfl
  have hp := passes_of (X := cxOf (CX P w) P w K mg base ["draws", "prices", "count", "least", "paper", "begin", "k", "end", "p"] "_law_free_paper" (defScope s__law_free_paper) (He.ga K "_law_free_paper") cdv A outer s H EE) rfl
  exact (fscons (fset (i := 4) sc.nd rfl (Or.inl rfl) (flst fanil)) (fscons (fset (i := 5) sc.nd rfl (Or.inl rfl) (fcint E.f_int (facons (feq hr.units (fcall hZ (ok__law_next E) ar__law_next (hr.mono (by decide)) tk E.g__law_next E.D__law_next.kp (b__law_next E) (facons (fv 0) (facons fint fanil))) fint) fanil))) (fscons (fsfor hp rfl (fir1 (by rfl) E.f_range (facons (fv 2) fanil)) (fgname (i := 6) sc.nd rfl (Or.inl rfl)) (nxName 6) (fscons (fset (i := 5) sc.nd rfl (Or.inl rfl) (fmin2 rfl E.f_min (facons (fv 5) (facons (fsub (flen E.f_len (facons (fv 1) fanil)) fint) fanil)))) (fscons (fset (i := 7) sc.nd rfl (Or.inl rfl) (fadd (fv 5) fint)) (fscons (fsfor hp rfl (fir1 (by rfl) E.f_range (facons (flen E.f_len (facons (fv 1) fanil)) fanil)) (fgname (i := 8) sc.nd rfl (Or.inl rfl)) (nxName 8) (fsone (fsif (ft_w (fw_and (tlt (fv 7) (flen E.f_len (facons (fv 1) fanil))) (fw_and1 (tlt (fsum rfl E.f_sum (facons (fslice (fv 1) (foint (fv 5)) (foint (fv 7))) fanil)) (fv 3))))) (fsone (fset (i := 7) sc.nd rfl (Or.inl rfl) (fadd (fv 7) fint))) fsnil))) (fscons (fsif (ft_w (fw_and (tlt (fv 7) (flen E.f_len (facons (fv 1) fanil))) (fw_and1 (teq hr.units (fcall hZ (ok__law_next E) ar__law_next (hr.mono (by decide)) tk E.g__law_next E.D__law_next.kp (b__law_next E) (facons (fv 0) (facons fint fanil))) fint)))) (fsone (fset (i := 7) sc.nd rfl (Or.inl rfl) (fadd (fv 7) fint))) fsnil) (fscons (fexpr (fmeth oAppend PySem.F.slot_list_append rfl mt_append (fv 4) (facons (ftup (facons (fv 5) (facons (fv 7) fanil))) fanil))) (fsone (fset (i := 5) sc.nd rfl (Or.inl rfl) (fadd (fsub (fv 7) fint) (fcint E.f_int (facons (feq hr.units (fcall hZ (ok__law_next E) ar__law_next (hr.mono (by decide)) tk E.g__law_next E.D__law_next.kp (b__law_next E) (facons (fv 0) (facons fint fanil))) fint) fanil))))))))))) (fsone (fret (fctuple E.f_tuple (facons (fv 4) fanil)))))))
theorem sc__law_odd : FnScope ["draws", "odd"] ["draws"] (defScope s__law_odd) := ⟨rfl, rfl, rfl, by decide +kernel, rfl, by decide +kernel, by decide +kernel⟩
theorem b__law_odd (E : EV K mg) : Binds K E.fd__law_odd ["draws"] [] := E.D__law_odd.bindsN fun _ _ _ _ _ _ us hl => match us, hl with | [_], _ => rfl
theorem ok__law_odd (E : EV K mg) : FnF P w K mg base 3 (He.ga K "_law_odd") E.fd__law_odd ["draws"] F__law_odd := by
  have sc := sc__law_odd
  refine fnF_of (k := 2) E.D__law_odd sc__law_odd (fun Z hZ X cdv A outer s H EE hX hr => ?_)
  subst hX
  have tk : Takes _ (wE EE) := takes_of (X := cxOf (CX P w) P w K mg base ["draws", "odd"] "_law_odd" (defScope s__law_odd) (He.ga K "_law_odd") cdv A outer s H EE) rfl rfl rfl rfl
  have hp := passes_of (X := cxOf (CX P w) P w K mg base ["draws", "odd"] "_law_odd" (defScope s__law_odd) (He.ga K "_law_odd") cdv A outer s H EE) rfl
  exact (fscons (fset (i := 1) sc.nd rfl (Or.inl rfl) (flst (facons fnon (facons fbl (facons fbl (facons fint (facons (fneg fint) (facons (fneg fint) (facons fstr (facons fstr (facons fstr (facons (ftup fanil) (facons (ftup (facons fnon fanil)) (facons (fpow fint fint) (facons (fneg (fpow fint fint)) (facons (ftup (facons fint (facons fint fanil))) fanil)))))))))))))))) (fsone (fret (fidx (fv 1) (fcall hZ (ok__law_next E) ar__law_next (hr.mono (by decide)) tk E.g__law_next E.D__law_next.kp (b__law_next E) (facons (fv 0) (facons fint fanil)))))))
theorem sc__law_changed : FnScope ["draws", "paper", "size", "kind", "pairs", "at", "pair", "told", "one"] ["draws", "paper", "size"] (defScope s__law_changed) := ⟨rfl, rfl, rfl, by decide +kernel, rfl, by decide +kernel, by decide +kernel⟩
theorem b__law_changed (E : EV K mg) : Binds K E.fd__law_changed ["draws", "paper", "size"] [] := E.D__law_changed.bindsN fun _ _ _ _ _ _ us hl => match us, hl with | [_, _, _], _ => rfl
theorem ok__law_changed (E : EV K mg) : FnF P w K mg base 4 (He.ga K "_law_changed") E.fd__law_changed ["draws", "paper", "size"] F__law_changed := by
  have sc := sc__law_changed
  refine fnF_of (k := 3) E.D__law_changed sc__law_changed (fun Z hZ X cdv A outer s H EE hX hr => ?_)
  subst hX
  have tk : Takes _ (wE EE) := takes_of (X := cxOf (CX P w) P w K mg base ["draws", "paper", "size", "kind", "pairs", "at", "pair", "told", "one"] "_law_changed" (defScope s__law_changed) (He.ga K "_law_changed") cdv A outer s H EE) rfl rfl rfl rfl
  have hp := passes_of (X := cxOf (CX P w) P w K mg base ["draws", "paper", "size", "kind", "pairs", "at", "pair", "told", "one"] "_law_changed" (defScope s__law_changed) (He.ga K "_law_changed") cdv A outer s H EE) rfl
  exact (fscons (fset (i := 3) sc.nd rfl (Or.inl rfl) (fcall hZ (ok__law_next E) ar__law_next (hr.mono (by decide)) tk E.g__law_next E.D__law_next.kp (b__law_next E) (facons (fv 0) (facons fint fanil)))) (fscons (fsetcomp (i := 4) hZ rfl sc.nd rfl rfl rfl (fiseq (fv 1)) (blkOk_by (own := [(("pair" : Str), 6)]) (by rfl)) (fun _ _ _ _ _ => (fwname (i := 6) sc.nd rfl (Or.inl rfl))) (fun _ _ _ _ _ => ftsnil) (fun _ _ _ _ _ => (fclist E.f_list (facons (fv 6) fanil)))) (fscons (fset (i := 5) sc.nd rfl (Or.inl rfl) (fcall hZ (ok__law_next E) ar__law_next (hr.mono (by decide)) tk E.g__law_next E.D__law_next.kp (b__law_next E) (facons (fv 0) (facons (flen E.f_len (facons (fv 4) fanil)) fanil)))) (fscons (fset (i := 6) sc.nd rfl (Or.inl rfl) (fidx (fv 4) (fv 5))) (fscons (fsif (teq hr.units (fv 3) fint) (fsone (fasg (fsub (fidx (fv 6) fint) fint) (fgsub (W := W0) (fv 6) fint) nxSub)) fsnil) (fscons (fsif (teq hr.units (fv 3) fint) (fsone (fasg (fadd (fidx (fv 6) fint) fint) (fgsub (W := W0) (fv 6) fint) nxSub)) fsnil) (fscons (fsif (teq hr.units (fv 3) fint) (fsone (fasg (fsub (fidx (fv 6) fint) fint) (fgsub (W := W0) (fv 6) fint) nxSub)) fsnil) (fscons (fsif (teq hr.units (fv 3) fint) (fsone (fasg (fadd (fidx (fv 6) fint) fint) (fgsub (W := W0) (fv 6) fint) nxSub)) fsnil) (fscons (fsif (teq hr.units (fv 3) fint) (fsone (fasg (fadd (fv 2) fint) (fgsub (W := W0) (fv 6) fint) nxSub)) fsnil) (fscons (fsif (teq hr.units (fv 3) fint) (fsone (fasg (fneg fint) (fgsub (W := W0) (fv 6) fint) nxSub)) fsnil) (fscons (fsif (teq hr.units (fv 3) fint) (fsone (fasg (fidx (fv 6) fint) (fgsub (W := W0) (fv 6) fint) nxSub)) fsnil) (fscons (fsif (teq hr.units (fv 3) fint) (fsone (fasg (fcall hZ (ok__law_odd E) ar__law_odd (hr.mono (by decide)) tk E.g__law_odd E.D__law_odd.kp (b__law_odd E) (facons (fv 0) fanil)) (fgsub (W := W0) (fv 6) (fcall hZ (ok__law_next E) ar__law_next (hr.mono (by decide)) takesW0 E.g__law_next E.D__law_next.kp (b__law_next E) (facons (fv 0) (facons fint fanil)))) nxSub)) fsnil) (fscons (fsif (teq hr.units (fv 3) fint) (fsone (fexpr (fmeth oAppend PySem.F.slot_list_append rfl mt_append (fv 6) (facons (fv 2) fanil)))) fsnil) (fscons (fsif (teq hr.units (fv 3) fint) (fsone (fexpr (fmeth0 oPop PySem.F.slot_list_pop rfl mt_pop (fv 6)))) fsnil) (fscons (fsif (teq hr.units (fv 3) fint) (fsone (fexpr (fmeth oPopAt PySem.F.slot_list_pop rfl mt_popAt (fv 4) (facons (fv 5) fanil)))) fsnil) (fscons (fsif (teq hr.units (fv 3) fint) (fsone (fexpr (fmeth oAppend PySem.F.slot_list_append rfl mt_append (fv 4) (facons (fclist E.f_list (facons (fv 6) fanil)) fanil)))) fsnil) (fscons (fsif (ft_w (fw_and (teq hr.units (fv 3) fint) (fw_and1 (tgt (fv 5) fint)))) (fsone (fasg (fsub (fidx (fidx (fv 1) (fsub (fv 5) fint)) fint) fint) (fgsub (W := W0) (fv 6) fint) nxSub)) fsnil) (fscons (fsif (teq hr.units (fv 3) fint) (fsone (fexpr (fmeth oInsert PySem.F.slot_list_insert rfl mtInsert (fv 4) (facons fint (facons (fmeth oPopAt PySem.F.slot_list_pop rfl mt_popAt (fv 4) (facons (fv 5) fanil)) fanil))))) fsnil) (fscons (fsif (teq hr.units (fv 3) fint) (fsone (fret (fcomp hZ rfl sc.nd (fiseq (fv 4)) (blkOk_by (own := [(("one" : Str), 8)]) (by rfl)) (fun _ _ _ _ _ => (fwname (i := 8) sc.nd rfl (Or.inl rfl))) (fun _ _ _ _ _ => ftsnil) (fun _ _ _ _ _ => (fctuple E.f_tuple (facons (fv 8) fanil)))))) fsnil) (fscons (fsetcomp (i := 7) hZ rfl sc.nd rfl rfl rfl (fiseq (fv 4)) (blkOk_by (own := [(("one" : Str), 8)]) (by rfl)) (fun _ _ _ _ _ => (fwname (i := 8) sc.nd rfl (Or.inl rfl))) (fun _ _ _ _ _ => ftsnil) (fun _ _ _ _ _ => (fctuple E.f_tuple (facons (fv 8) fanil)))) (fscons (fsif (teq hr.units (fv 3) fint) (fsone (fasg (fclist E.f_list (facons (fv 6) fanil)) (fgsub (W := W0) (fv 7) (fv 5)) nxSub)) fsnil) (fsone (fret (fctuple E.f_tuple (facons (fv 7) fanil)))))))))))))))))))))))))
theorem sc__law_papers_right : FnScope ["draws", "prices", "count", "least", "paper", "low", "bar", "k", "free", "value", "pair"] ["draws", "prices", "count", "least"] (defScope s__law_papers_right) := ⟨rfl, rfl, rfl, by decide +kernel, rfl, by decide +kernel, by decide +kernel⟩
theorem b__law_papers_right (E : EV K mg) : Binds K E.fd__law_papers_right ["draws", "prices", "count", "least"] [] := E.D__law_papers_right.bindsN fun _ _ _ _ _ _ us hl => match us, hl with | [_, _, _, _], _ => rfl
theorem ok__law_papers_right (E : EV K mg) : FnF P w K mg base 44 (He.ga K "_law_papers_right") E.fd__law_papers_right ["draws", "prices", "count", "least"] F__law_papers_right := by
  have sc := sc__law_papers_right
  refine fnF_of (k := 43) E.D__law_papers_right sc__law_papers_right (fun Z hZ X cdv A outer s H EE hX hr => ?_)
  subst hX
  have tk : Takes _ (wE EE) := takes_of (X := cxOf (CX P w) P w K mg base ["draws", "prices", "count", "least", "paper", "low", "bar", "k", "free", "value", "pair"] "_law_papers_right" (defScope s__law_papers_right) (He.ga K "_law_papers_right") cdv A outer s H EE) rfl rfl rfl rfl
  have hp := passes_of (X := cxOf (CX P w) P w K mg base ["draws", "prices", "count", "least", "paper", "low", "bar", "k", "free", "value", "pair"] "_law_papers_right" (defScope s__law_papers_right) (He.ga K "_law_papers_right") cdv A outer s H EE) rfl
  exact (fscons (fset (i := 4) sc.nd rfl (Or.inl rfl) (fcall hZ (ok__law_paper E) ar__law_paper (hr.mono (by decide)) tk E.g__law_paper E.D__law_paper.kp (b__law_paper E) (facons (fv 1) (facons (fv 2) (facons (fv 3) fanil))))) (fscons (fset (i := 5) sc.nd rfl (Or.inl rfl) (fidx (ftup (facons fint (facons (fneg fint) (facons (fsub (fv 3) fint) (facons (fsub fint (fpow fint fint)) fanil))))) (fcall hZ (ok__law_next E) ar__law_next (hr.mono (by decide)) tk E.g__law_next E.D__law_next.kp (b__law_next E) (facons (fv 0) (facons fint fanil))))) (fscons (fsfor hp rfl (fiseq (ftup (facons (fv 3) (facons (fadd (fv 3) fint) (facons (fpow fint fint) (facons (fv 5) fanil)))))) (fgname (i := 6) sc.nd rfl (Or.inl rfl)) (nxName 6) (fsone (fsif (ft_not (ft_val (fcall hZ (ok__law_judged E) ar__law_judged (hr.mono (by decide)) tk E.g__law_judged E.D__law_judged.kp (b__law_judged E) (facons (fv 1) (facons (fv 2) (facons (fv 6) (facons (fv 4) fanil))))))) (fsone (fret fbl)) fsnil))) (fscons (fsfor hp rfl (fir1 (by rfl) E.f_range (facons fint fanil)) (fgname (i := 7) sc.nd rfl (Or.inl rfl)) (nxName 7) (fscons (fset (i := 8) sc.nd rfl (Or.inl rfl) (fcall hZ (ok__law_free_paper E) ar__law_free_paper (hr.mono (by decide)) tk E.g__law_free_paper E.D__law_free_paper.kp (b__law_free_paper E) (facons (fv 0) (facons (fv 1) (facons (fv 2) (facons (fadd fint (fcall hZ (ok__law_next E) ar__law_next (hr.mono (by decide)) tk E.g__law_next E.D__law_next.kp (b__law_next E) (facons (fv 0) (facons (fv 3) fanil)))) fanil)))))) (fscons (fset (i := 6) sc.nd rfl (Or.inl rfl) (fmin rfl E.f_min (facons (fcomp hZ rfl sc.nd (fiseq (fv 8)) (blkOk_by (own := [(("pair" : Str), 10)]) (by rfl)) (fun _ _ _ _ _ => (fwname (i := 10) sc.nd rfl (Or.inl rfl))) (fun _ _ _ _ _ => ftsnil) (fun _ _ _ _ _ => (fsum rfl E.f_sum (facons (fslice (fv 1) (foint (fidx (fv 10) fint)) (foint (fidx (fv 10) fint))) fanil)))) fanil))) (fsone (fsfor hp rfl (fiseq (ftup (facons (fv 8) (facons (fcall hZ (ok__law_changed E) ar__law_changed (hr.mono (by decide)) tk E.g__law_changed E.D__law_changed.kp (b__law_changed E) (facons (fv 0) (facons (fv 8) (facons (flen E.f_len (facons (fv 1) fanil)) fanil)))) (facons (fcall hZ (ok__law_changed E) ar__law_changed (hr.mono (by decide)) tk E.g__law_changed E.D__law_changed.kp (b__law_changed E) (facons (fv 0) (facons (fv 4) (facons (flen E.f_len (facons (fv 1) fanil)) fanil)))) fanil))))) (fgname (i := 9) sc.nd rfl (Or.inl rfl)) (nxName 9) (fscons (fsif (ft_w (fw_or (ft_not (ft_val (fcall hZ (ok__law_judged E) ar__law_judged (hr.mono (by decide)) tk E.g__law_judged E.D__law_judged.kp (b__law_judged E) (facons (fv 1) (facons (fv 2) (facons (fv 6) (facons (fv 9) fanil))))))) (fw_or1 (ft_not (ft_val (fcall hZ (ok__law_judged E) ar__law_judged (hr.mono (by decide)) tk E.g__law_judged E.D__law_judged.kp (b__law_judged E) (facons (fv 1) (facons (fv 2) (facons (fadd (fv 6) fint) (facons (fv 9) fanil)))))))))) (fsone (fret fbl)) fsnil) (fsone (fsif (ft_not (ft_val (fcall hZ (ok__law_judged E) ar__law_judged (hr.mono (by decide)) tk E.g__law_judged E.D__law_judged.kp (b__law_judged E) (facons (fv 1) (facons (fv 2) (facons (fv 5) (facons (fv 9) fanil))))))) (fsone (fret fbl)) fsnil)))))))) (fsone (fret (fand (fcall hZ (ok__law_judged E) ar__law_judged (hr.mono (by decide)) tk E.g__law_judged E.D__law_judged.kp (b__law_judged E) (facons (fv 1) (facons (fv 2) (facons (fv 3) (facons (fcall hZ (ok__law_odd E) ar__law_odd (hr.mono (by decide)) tk E.g__law_odd E.D__law_odd.kp (b__law_odd E) (facons (fv 0) fanil)) fanil))))) (fone (fcall hZ (ok__law_judged E) ar__law_judged (hr.mono (by decide)) tk E.g__law_judged E.D__law_judged.kp (b__law_judged E) (facons (fv 1) (facons (fv 2) (facons (fv 3) (facons (fv 4) fanil)))))))))))))
theorem sc__law_bad_costs : FnScope ["draws", "prices", "kind", "bad", "at", "behind", "k"] ["draws", "prices"] (defScope s__law_bad_costs) := ⟨rfl, rfl, rfl, by decide +kernel, rfl, by decide +kernel, by decide +kernel⟩
theorem b__law_bad_costs (E : EV K mg) : Binds K E.fd__law_bad_costs ["draws", "prices"] [] := E.D__law_bad_costs.bindsN fun _ _ _ _ _ _ us hl => match us, hl with | [_, _], _ => rfl
theorem ok__law_bad_costs (E : EV K mg) : FnF P w K mg base 4 (He.ga K "_law_bad_costs") E.fd__law_bad_costs ["draws", "prices"] F__law_bad_costs := by
  have sc := sc__law_bad_costs
  refine fnF_of (k := 3) E.D__law_bad_costs sc__law_bad_costs (fun Z hZ X cdv A outer s H EE hX hr => ?_)
  subst hX
  have tk : Takes _ (wE EE) := takes_of (X := cxOf (CX P w) P w K mg base ["draws", "prices", "kind", "bad", "at", "behind", "k"] "_law_bad_costs" (defScope s__law_bad_costs) (He.ga K "_law_bad_costs") cdv A outer s H EE) rfl rfl rfl rfl
  have hp := passes_of (X := cxOf (CX P w) P w K mg base ["draws", "prices", "kind", "bad", "at", "behind", "k"] "_law_bad_costs" (defScope s__law_bad_costs) (He.ga K "_law_bad_costs") cdv A outer s H EE) rfl
  exact (fscons (fset (i := 2) sc.nd rfl (Or.inl rfl) (fcall hZ (ok__law_next E) ar__law_next (hr.mono (by decide)) tk E.g__law_next E.D__law_next.kp (b__law_next E) (facons (fv 0) (facons fint fanil)))) (fscons (fsif (teq hr.units (fv 2) fint) (fsone (fret (ftup (facons (fcall hZ (ok__law_odd E) ar__law_odd (hr.mono (by decide)) tk E.g__law_odd E.D__law_odd.kp (b__law_odd E) (facons (fv 0) fanil)) (facons fint fanil))))) fsnil) (fscons (fsif (teq hr.units (fv 2) fint) (fsone (fret (ftup (facons (fcomp hZ rfl sc.nd (fir1 (by rfl) E.f_range (facons fint fanil)) (blkOk_by (own := [(("k" : Str), 6)]) (by rfl)) (fun _ _ _ _ _ => (fwname (i := 6) sc.nd rfl (Or.inl rfl))) (fun _ _ _ _ _ => ftsnil) (fun _ _ _ _ _ => (fidx (fv 1) (fmod (fv 6) (flen E.f_len (facons (fv 1) fanil)))))) (facons fint fanil))))) fsnil) (fscons (fset (i := 3) sc.nd rfl (Or.inl rfl) (fclist E.f_list (facons (fv 1) fanil))) (fscons (fset (i := 4) sc.nd rfl (Or.inl rfl) (fcall hZ (ok__law_next E) ar__law_next (hr.mono (by decide)) tk E.g__law_next E.D__law_next.kp (b__law_next E) (facons (fv 0) (facons (flen E.f_len (facons (fv 3) fanil)) fanil)))) (fscons (fasg fint (fgsub (W := W0) (fv 3) (fv 4)) nxSub) (fscons (fsif (tgt (fv 2) fint) (fsone (fasg (fcall hZ (ok__law_odd E) ar__law_odd (hr.mono (by decide)) tk E.g__law_odd E.D__law_odd.kp (b__law_odd E) (facons (fv 0) fanil)) (fgsub (W := W0) (fv 3) (fv 4)) nxSub)) fsnil) (fscons (fset (i := 5) sc.nd rfl (Or.inl rfl) (fadd (fadd (fv 4) fint) (fcall hZ (ok__law_next E) ar__law_next (hr.mono (by decide)) tk E.g__law_next E.D__law_next.kp (b__law_next E) (facons (fv 0) (facons fint fanil))))) (fscons (fsif (tlt (fv 5) (flen E.f_len (facons (fv 3) fanil))) (fsone (fasg (fcall hZ (ok__law_odd E) ar__law_odd (hr.mono (by decide)) tk E.g__law_odd E.D__law_odd.kp (b__law_odd E) (facons (fv 0) fanil)) (fgsub (W := W0) (fv 3) (fv 5)) nxSub)) fsnil) (fsone (fret (ftup (facons (fv 3) (facons (fv 4) fanil))))))))))))))
theorem sc__law_refused : FnScope ["draws", "prices", "count", "least", "paper", "which", "value", "wrong", "row", "number"] ["draws", "prices", "count", "least"] (defScope s__law_refused) := ⟨rfl, rfl, rfl, by decide +kernel, rfl, by decide +kernel, by decide +kernel⟩
theorem b__law_refused (E : EV K mg) : Binds K E.fd__law_refused ["draws", "prices", "count", "least"] [] := E.D__law_refused.bindsN fun _ _ _ _ _ _ us hl => match us, hl with | [_, _, _, _], _ => rfl
theorem ok__law_refused (E : EV K mg) : FnF P w K mg base 43 (He.ga K "_law_refused") E.fd__law_refused ["draws", "prices", "count", "least"] F__law_refused := by
  have sc := sc__law_refused
  refine fnF_of (k := 42) E.D__law_refused sc__law_refused (fun Z hZ X cdv A outer s H EE hX hr => ?_)
  subst hX
  have tk : Takes _ (wE EE) := takes_of (X := cxOf (CX P w) P w K mg base ["draws", "prices", "count", "least", "paper", "which", "value", "wrong", "row", "number"] "_law_refused" (defScope s__law_refused) (He.ga K "_law_refused") cdv A outer s H EE) rfl rfl rfl rfl
  have hp := passes_of (X := cxOf (CX P w) P w K mg base ["draws", "prices", "count", "least", "paper", "which", "value", "wrong", "row", "number"] "_law_refused" (defScope s__law_refused) (He.ga K "_law_refused") cdv A outer s H EE) rfl
  exact (fscons (fset (i := 4) sc.nd rfl (Or.inl rfl) (fcall hZ (ok__law_paper E) ar__law_paper (hr.mono (by decide)) tk E.g__law_paper E.D__law_paper.kp (b__law_paper E) (facons (fv 1) (facons (fv 2) (facons (fv 3) fanil))))) (fscons (fsfor hp rfl (fir1 (by rfl) E.f_range (facons fint fanil)) (fgname (i := 5) sc.nd rfl (Or.inl rfl)) (nxName 5) (fscons (fset (i := 6) sc.nd rfl (Or.inl rfl) (fidx (ftup (facons (fv 4) (facons (fcall hZ (ok__law_odd E) ar__law_odd (hr.mono (by decide)) tk E.g__law_odd E.D__law_odd.kp (b__law_odd E) (facons (fv 0) fanil)) fanil))) (fcall hZ (ok__law_next E) ar__law_next (hr.mono (by decide)) tk E.g__law_next E.D__law_next.kp (b__law_next E) (facons (fv 0) (facons fint fanil))))) (fscons (fset (i := 7) sc.nd rfl (Or.inl rfl) (fidx (ftup (facons (fcall hZ (ok__law_odd E) ar__law_odd (hr.mono (by decide)) tk E.g__law_odd E.D__law_odd.kp (b__law_odd E) (facons (fv 0) fanil)) (facons (fadd (flen E.f_len (facons (fv 1) fanil)) fint) fanil))) (fcall hZ (ok__law_next E) ar__law_next (hr.mono (by decide)) tk E.g__law_next E.D__law_next.kp (b__law_next E) (facons (fv 0) (facons fint fanil))))) (fscons (fsif (ft_not (ft_val (fcall hZ (ok__law_same E 40) (ar__law_same 40) (hr.mono (by decide)) tk E.g__law_same E.D__law_same.kp (b__law_same E) (facons (fcall hZ (ok__law_told E) ar__law_told (hr.mono (by decide)) tk E.g__law_told E.D__law_told.kp (b__law_told E) (facons (fv 5) (facons (fclist E.f_list (facons (fv 1) fanil)) (facons (fv 7) (facons (fv 3) (facons (fv 6) fanil)))))) (facons (ftup (facons fstr (facons (fv 7) fanil))) fanil))))) (fsone (fret fbl)) fsnil) (fscons (fset (i := 8) sc.nd rfl (Or.inl rfl) (fcall hZ (ok__law_bad_costs E) ar__law_bad_costs (hr.mono (by decide)) tk E.g__law_bad_costs E.D__law_bad_costs.kp (b__law_bad_costs E) (facons (fv 0) (facons (fv 1) fanil)))) (fscons (fset (i := 9) sc.nd rfl (Or.inl rfl) (fidx (ftup (facons (fv 2) (facons (fv 7) fanil))) (fcall hZ (ok__law_next E) ar__law_next (hr.mono (by decide)) tk E.g__law_next E.D__law_next.kp (b__law_next E) (facons (fv 0) (facons fint fanil))))) (fsone (fsif (ft_not (ft_val (fcall hZ (ok__law_same E 40) (ar__law_same 40) (hr.mono (by decide)) tk E.g__law_same E.D__law_same.kp (b__law_same E) (facons (fcall hZ (ok__law_told E) ar__law_told (hr.mono (by decide)) tk E.g__law_told E.D__law_told.kp (b__law_told E) (facons (fv 5) (facons (fidx (fv 8) fint) (facons (fv 9) (facons (fv 3) (facons (fv 6) fanil)))))) (facons (ftup (facons fstr (facons (fidx (fv 8) fint) fanil))) fanil))))) (fsone (fret fbl)) fsnil)))))))) (fsone (fret fbl))))
theorem sc_law : FnScope ["script", "draws", "prices", "count", "least", "own", "paper", "due"] ["script"] (defScope s_law) := ⟨rfl, rfl, rfl, by decide +kernel, rfl, by decide +kernel, by decide +kernel⟩
theorem b_law (E : EV K mg) : Binds K E.fd_law ["script"] [] := E.D_law.bindsN fun _ _ _ _ _ _ us hl => match us, hl with | [_], _ => rfl
theorem ok_law (E : EV K mg) : FnF P w K mg base 45 (He.ga K "law") E.fd_law ["script"] F_law := by
  have sc := sc_law
  refine fnF_of (k := 44) E.D_law sc_law (fun Z hZ X cdv A outer s H EE hX hr => ?_)
  subst hX
  have tk : Takes _ (wE EE) := takes_of (X := cxOf (CX P w) P w K mg base ["script", "draws", "prices", "count", "least", "own", "paper", "due"] "law" (defScope s_law) (He.ga K "law") cdv A outer s H EE) rfl rfl rfl rfl
  have hp := passes_of (X := cxOf (CX P w) P w K mg base ["script", "draws", "prices", "count", "least", "own", "paper", "due"] "law" (defScope s_law) (He.ga K "law") cdv A outer s H EE) rfl
  exact (fscons (fset (i := 1) sc.nd rfl (Or.inl rfl) (fcall hZ (ok__law_draws E) ar__law_draws (hr.mono (by decide)) tk E.g__law_draws E.D__law_draws.kp (b__law_draws E) (facons (fv 0) fanil))) (fscons (fset (i := 2) sc.nd rfl (Or.inl rfl) (fcall hZ (ok__law_prices E) ar__law_prices (hr.mono (by decide)) tk E.g__law_prices E.D__law_prices.kp (b__law_prices E) (facons (fv 1) fanil))) (fscons (fset (i := 3) sc.nd rfl (Or.inl rfl) (fadd fint (fcall hZ (ok__law_next E) ar__law_next (hr.mono (by decide)) tk E.g__law_next E.D__law_next.kp (b__law_next E) (facons (fv 1) (facons (flen E.f_len (facons (fv 2) fanil)) fanil))))) (fscons (fsif (teq hr.units (fcall hZ (ok__law_next E) ar__law_next (hr.mono (by decide)) tk E.g__law_next E.D__law_next.kp (b__law_next E) (facons (fv 1) (facons fint fanil))) fint) (fsone (fset (i := 3) sc.nd rfl (Or.inl rfl) fint)) fsnil) (fscons (fset (i := 4) sc.nd rfl (Or.inl rfl) (fcall hZ (ok__law_least E) ar__law_least (hr.mono (by decide)) tk E.g__law_least E.D__law_least.kp (b__law_least E) (facons (fv 2) (facons (fv 3) fanil)))) (fscons (fset (i := 5) sc.nd rfl (Or.inl rfl) (fclist E.f_list (facons (fv 2) fanil))) (fscons (fset (i := 6) sc.nd rfl (Or.inl rfl) (fcall hZ (ok__law_paper E) ar__law_paper (hr.mono (by decide)) tk E.g__law_paper E.D__law_paper.kp (b__law_paper E) (facons (fv 2) (facons (fv 3) (facons (fv 4) fanil))))) (fscons (fsif (ft_w (fw_or (ft_not (ft_val (fcall hZ (ok__law_same E 40) (ar__law_same 40) (hr.mono (by decide)) tk E.g__law_same E.D__law_same.kp (b__law_same E) (facons (fcall hZ (ok__law_told E) ar__law_told (hr.mono (by decide)) tk E.g__law_told E.D__law_told.kp (b__law_told E) (facons fint (facons (fv 5) (facons (fv 3) (facons fint (facons fnon fanil)))))) (facons (ftup (facons fstr (facons (fv 6) fanil))) fanil))))) (fw_or1 (tne hr.units (fv 5) (fv 2))))) (fsone (fret fbl)) fsnil) (fscons (fsif (ft_not (ft_val (fcall hZ (ok__law_same E 40) (ar__law_same 40) (hr.mono (by decide)) tk E.g__law_same E.D__law_same.kp (b__law_same E) (facons (fcall hZ (ok__law_told E) ar__law_told (hr.mono (by decide)) tk E.g__law_told E.D__law_told.kp (b__law_told E) (facons fint (facons (fctuple E.f_tuple (facons (fv 2) fanil)) (facons (fv 3) (facons fint (facons fnon fanil)))))) (facons (ftup (facons fstr (facons (fv 6) fanil))) fanil))))) (fsone (fret fbl)) fsnil) (fscons (fsif (ft_w (fw_or (ft_not (ft_val (fcall hZ (ok__law_same E 40) (ar__law_same 40) (hr.mono (by decide)) tk E.g__law_same E.D__law_same.kp (b__law_same E) (facons (fcall hZ (ok__law_told E) ar__law_told (hr.mono (by decide)) tk E.g__law_told E.D__law_told.kp (b__law_told E) (facons fint (facons (fv 5) (facons (fv 3) (facons fint (facons fnon fanil)))))) (facons (ftup (facons fstr (facons (fv 4) fanil))) fanil))))) (fw_or1 (tne hr.units (fv 5) (fv 2))))) (fsone (fret fbl)) fsnil) (fscons (fsif (ft_w (fw_or (ft_not (ft_val (fcall hZ (ok__law_papers_right E) ar__law_papers_right (hr.mono (by decide)) tk E.g__law_papers_right E.D__law_papers_right.kp (b__law_papers_right E) (facons (fv 1) (facons (fv 2) (facons (fv 3) (facons (fv 4) fanil))))))) (fw_or1 (ft_not (ft_val (fcall hZ (ok__law_refused E) ar__law_refused (hr.mono (by decide)) tk E.g__law_refused E.D__law_refused.kp (b__law_refused E) (facons (fv 1) (facons (fv 2) (facons (fv 3) (facons (fv 4) fanil)))))))))) (fsone (fret fbl)) fsnil) (fscons (fasg (fadd fint (fcall hZ (ok__law_next E) ar__law_next (hr.mono (by decide)) tk E.g__law_next E.D__law_next.kp (b__law_next E) (facons (fv 1) (facons fint fanil)))) (fgsub (W := W0) (fv 5) (fcall hZ (ok__law_next E) ar__law_next (hr.mono (by decide)) takesW0 E.g__law_next E.D__law_next.kp (b__law_next E) (facons (fv 1) (facons (flen E.f_len (facons (fv 5) fanil)) fanil)))) nxSub) (fscons (fset (i := 7) sc.nd rfl (Or.inl rfl) (fcall hZ (ok__law_paper E) ar__law_paper (hr.mono (by decide)) tk E.g__law_paper E.D__law_paper.kp (b__law_paper E) (facons (fclist E.f_list (facons (fv 5) fanil)) (facons (fv 3) (facons (fcall hZ (ok__law_least E) ar__law_least (hr.mono (by decide)) tk E.g__law_least E.D__law_least.kp (b__law_least E) (facons (fclist E.f_list (facons (fv 5) fanil)) (facons (fv 3) fanil))) fanil))))) (fscons (fsif (ft_not (ft_val (fcall hZ (ok__law_same E 40) (ar__law_same 40) (hr.mono (by decide)) tk E.g__law_same E.D__law_same.kp (b__law_same E) (facons (fcall hZ (ok__law_told E) ar__law_told (hr.mono (by decide)) tk E.g__law_told E.D__law_told.kp (b__law_told E) (facons fint (facons (fv 5) (facons (fv 3) (facons fint (facons fnon fanil)))))) (facons (ftup (facons fstr (facons (fv 7) fanil))) fanil))))) (fsone (fret fbl)) fsnil) (fscons (fsif (tgt (flen E.f_len (facons (fv 2) fanil)) fint) (fsone (fset (i := 2) sc.nd rfl (Or.inl rfl) (fslice (fv 2) fono (foint fint)))) fsnil) (fsone (fret (fcall hZ (ok__law_small_right E) ar__law_small_right (hr.mono (by decide)) tk E.g__law_small_right E.D__law_small_right.kp (b__law_small_right E) (facons (fv 2) (facons (fsum rfl E.f_sum (facons (fv 2) fanil)) fanil))))))))))))))))))))
end
def dfs : List He.DefD := [⟨("_law_draws", none), "_law_draws", "_law_draws", defArgs s__law_draws, defBody s__law_draws, defScope s__law_draws, [], []⟩,
  ⟨("_law_next", none), "_law_next", "_law_next", defArgs s__law_next, defBody s__law_next, defScope s__law_next, [], []⟩,
  ⟨("_law_prices", none), "_law_prices", "_law_prices", defArgs s__law_prices, defBody s__law_prices, defScope s__law_prices, [], []⟩,
  ⟨("_law_least", none), "_law_least", "_law_least", defArgs s__law_least, defBody s__law_least, defScope s__law_least, [], []⟩,
  ⟨("_law_paper", none), "_law_paper", "_law_paper", defArgs s__law_paper, defBody s__law_paper, defScope s__law_paper, [], []⟩,
  ⟨("_law_is_integer", none), "_law_is_integer", "_law_is_integer", defArgs s__law_is_integer, defBody s__law_is_integer, defScope s__law_is_integer, [], []⟩,
  ⟨("_law_holds", none), "_law_holds", "_law_holds", defArgs s__law_holds, defBody s__law_holds, defScope s__law_holds, [], []⟩,
  ⟨("_law_same", none), "_law_same", "_law_same", defArgs s__law_same, defBody s__law_same, defScope s__law_same, [], []⟩,
  ⟨("is_integer", none), "is_integer", "is_integer", defArgs s_is_integer, defBody s_is_integer, defScope s_is_integer, [], []⟩,
  ⟨("is_from_to", none), "is_from_to", "is_from_to", defArgs s_is_from_to, defBody s_is_from_to, defScope s_is_from_to, [], []⟩,
  ⟨("checked_row", none), "checked_row", "checked_row", defArgs s_checked_row, defBody s_checked_row, defScope s_checked_row, [], []⟩,
  ⟨("checked_costs", none), "checked_costs", "checked_costs", defArgs s_checked_costs, defBody s_checked_costs, defScope s_checked_costs, [], []⟩,
  ⟨("check_number", none), "check_number", "check_number", defArgs s_check_number, defBody s_check_number, defScope s_check_number, [], []⟩,
  ⟨("checked_cut", none), "checked_cut", "checked_cut", defArgs s_checked_cut, defBody s_checked_cut, defScope s_checked_cut, [], []⟩,
  ⟨("is_pair_of", none), "is_pair_of", "is_pair_of", defArgs s_is_pair_of, defBody s_is_pair_of, defScope s_is_pair_of, [], []⟩,
  ⟨("top_paper_holds", none), "top_paper_holds", "top_paper_holds", defArgs s_top_paper_holds, defBody s_top_paper_holds, defScope s_top_paper_holds, [], []⟩,
  ⟨("stages_needed", none), "stages_needed", "stages_needed", defArgs s_stages_needed, defBody s_stages_needed, defScope s_stages_needed, [], []⟩,
  ⟨("top_needed", none), "top_needed", "top_needed", defArgs s_top_needed, defBody s_top_needed, defScope s_top_needed, [], []⟩,
  ⟨("least_top", none), "least_top", "least_top", defArgs s_least_top, defBody s_least_top, defScope s_least_top, [], []⟩,
  ⟨("shortest_from", none), "shortest_from", "shortest_from", defArgs s_shortest_from, defBody s_shortest_from, defScope s_shortest_from, [], []⟩,
  ⟨("top_paper", none), "top_paper", "top_paper", defArgs s_top_paper, defBody s_top_paper, defScope s_top_paper, [], []⟩,
  ⟨("_law_called", none), "_law_called", "_law_called", defArgs s__law_called, defBody s__law_called, defScope s__law_called, [], []⟩,
  ⟨("_law_told", none), "_law_told", "_law_told", defArgs s__law_told, defBody s__law_told, defScope s__law_told, [], []⟩,
  ⟨("_law_judged", none), "_law_judged", "_law_judged", defArgs s__law_judged, defBody s__law_judged, defScope s__law_judged, [], []⟩,
  ⟨("_law_small_right", none), "_law_small_right", "_law_small_right", defArgs s__law_small_right, defBody s__law_small_right, defScope s__law_small_right, [], []⟩,
  ⟨("_law_free_paper", none), "_law_free_paper", "_law_free_paper", defArgs s__law_free_paper, defBody s__law_free_paper, defScope s__law_free_paper, [], []⟩,
  ⟨("_law_odd", none), "_law_odd", "_law_odd", defArgs s__law_odd, defBody s__law_odd, defScope s__law_odd, [], []⟩,
  ⟨("_law_changed", none), "_law_changed", "_law_changed", defArgs s__law_changed, defBody s__law_changed, defScope s__law_changed, [], []⟩,
  ⟨("_law_papers_right", none), "_law_papers_right", "_law_papers_right", defArgs s__law_papers_right, defBody s__law_papers_right, defScope s__law_papers_right, [], []⟩,
  ⟨("_law_bad_costs", none), "_law_bad_costs", "_law_bad_costs", defArgs s__law_bad_costs, defBody s__law_bad_costs, defScope s__law_bad_costs, [], []⟩,
  ⟨("_law_refused", none), "_law_refused", "_law_refused", defArgs s__law_refused, defBody s__law_refused, defScope s__law_refused, [], []⟩,
  ⟨("law", none), "law", "law", defArgs s_law, defBody s_law, defScope s_law, [], []⟩,
  ⟨("InvalidNumber", some "__init__"), "__init__", "InvalidNumber.__init__", defArgs s_InvalidNumber, defBody s_InvalidNumber, defScope s_InvalidNumber, [], []⟩,
  ⟨("InvalidRow", some "__init__"), "__init__", "InvalidRow.__init__", defArgs s_InvalidRow, defBody s_InvalidRow, defScope s_InvalidRow, [], []⟩]
def fas : List He.Fa := [.glo "_law_draws", .glo "_law_next", .glo "_law_prices", .glo "_law_least", .glo "_law_paper", .glo "_law_is_integer", .glo "_law_holds", .glo "_law_same", .glo "is_integer", .glo "is_from_to", .glo "checked_row", .glo "checked_costs", .glo "check_number", .glo "checked_cut", .glo "is_pair_of", .glo "top_paper_holds", .glo "stages_needed", .glo "top_needed", .glo "least_top", .glo "shortest_from", .glo "top_paper", .glo "_law_called", .glo "_law_told", .glo "_law_judged", .glo "_law_small_right", .glo "_law_free_paper", .glo "_law_odd", .glo "_law_changed", .glo "_law_papers_right", .glo "_law_bad_costs", .glo "_law_refused", .glo "law", .glo "InvalidNumber", .glo "InvalidRow", .meth "InvalidNumber" "__init__", .noat "InvalidNumber" "number", .meth "InvalidRow" "__init__", .noat "InvalidRow" "place", .glo "DealError", .glo "InvalidLoad", .glo "InvalidLot", .glo "InvalidNumber", .glo "InvalidRow", .int "MOST_COST" 1000, .int "MOST_COSTS" 14, .free "bool", .free "enumerate", .free "int", .free "isinstance", .free "len", .free "list", .free "max", .free "min", .free "range", .free "str", .free "sum", .free "tuple"]
def exq (K : PySem.W.Frag) : Bool := exB exT exN exK exF K && oexB K (He.ga K "InvalidNumber") && oexB K (He.ga K "InvalidRow")
theorem ev_of {K : PySem.W.Frag} {h : Heap} {mg : Str → Option Value} (X : K.In h) (G : h.Ns mainGlobals mg) (c : SaysL fas dfs exq K) : Nonempty (EV K mg) := by
  obtain ⟨c, q⟩ := c
  obtain ⟨fd__law_draws, D__law_draws⟩ := c.def_ 0 rfl
  obtain ⟨fd__law_next, D__law_next⟩ := c.def_ 1 rfl
  obtain ⟨fd__law_prices, D__law_prices⟩ := c.def_ 2 rfl
  obtain ⟨fd__law_least, D__law_least⟩ := c.def_ 3 rfl
  obtain ⟨fd__law_paper, D__law_paper⟩ := c.def_ 4 rfl
  obtain ⟨fd__law_is_integer, D__law_is_integer⟩ := c.def_ 5 rfl
  obtain ⟨fd__law_holds, D__law_holds⟩ := c.def_ 6 rfl
  obtain ⟨fd__law_same, D__law_same⟩ := c.def_ 7 rfl
  obtain ⟨fd_is_integer, D_is_integer⟩ := c.def_ 8 rfl
  obtain ⟨fd_is_from_to, D_is_from_to⟩ := c.def_ 9 rfl
  obtain ⟨fd_checked_row, D_checked_row⟩ := c.def_ 10 rfl
  obtain ⟨fd_checked_costs, D_checked_costs⟩ := c.def_ 11 rfl
  obtain ⟨fd_check_number, D_check_number⟩ := c.def_ 12 rfl
  obtain ⟨fd_checked_cut, D_checked_cut⟩ := c.def_ 13 rfl
  obtain ⟨fd_is_pair_of, D_is_pair_of⟩ := c.def_ 14 rfl
  obtain ⟨fd_top_paper_holds, D_top_paper_holds⟩ := c.def_ 15 rfl
  obtain ⟨fd_stages_needed, D_stages_needed⟩ := c.def_ 16 rfl
  obtain ⟨fd_top_needed, D_top_needed⟩ := c.def_ 17 rfl
  obtain ⟨fd_least_top, D_least_top⟩ := c.def_ 18 rfl
  obtain ⟨fd_shortest_from, D_shortest_from⟩ := c.def_ 19 rfl
  obtain ⟨fd_top_paper, D_top_paper⟩ := c.def_ 20 rfl
  obtain ⟨fd__law_called, D__law_called⟩ := c.def_ 21 rfl
  obtain ⟨fd__law_told, D__law_told⟩ := c.def_ 22 rfl
  obtain ⟨fd__law_judged, D__law_judged⟩ := c.def_ 23 rfl
  obtain ⟨fd__law_small_right, D__law_small_right⟩ := c.def_ 24 rfl
  obtain ⟨fd__law_free_paper, D__law_free_paper⟩ := c.def_ 25 rfl
  obtain ⟨fd__law_odd, D__law_odd⟩ := c.def_ 26 rfl
  obtain ⟨fd__law_changed, D__law_changed⟩ := c.def_ 27 rfl
  obtain ⟨fd__law_papers_right, D__law_papers_right⟩ := c.def_ 28 rfl
  obtain ⟨fd__law_bad_costs, D__law_bad_costs⟩ := c.def_ 29 rfl
  obtain ⟨fd__law_refused, D__law_refused⟩ := c.def_ 30 rfl
  obtain ⟨fd_law, D_law⟩ := c.def_ 31 rfl
  obtain ⟨fd_InvalidNumber, D_InvalidNumber⟩ := c.def_ 32 rfl
  obtain ⟨fd_InvalidRow, D_InvalidRow⟩ := c.def_ 33 rfl
  obtain ⟨q, q_InvalidRow⟩ := Bool.and_eq_true_iff.mp q
  obtain ⟨q, q_InvalidNumber⟩ := Bool.and_eq_true_iff.mp q
  exact ⟨{
    fd__law_draws := fd__law_draws, D__law_draws := D__law_draws, g__law_draws := He.glo_ok X G (c.fact 0 rfl),
    fd__law_next := fd__law_next, D__law_next := D__law_next, g__law_next := He.glo_ok X G (c.fact 1 rfl),
    fd__law_prices := fd__law_prices, D__law_prices := D__law_prices, g__law_prices := He.glo_ok X G (c.fact 2 rfl),
    fd__law_least := fd__law_least, D__law_least := D__law_least, g__law_least := He.glo_ok X G (c.fact 3 rfl),
    fd__law_paper := fd__law_paper, D__law_paper := D__law_paper, g__law_paper := He.glo_ok X G (c.fact 4 rfl),
    fd__law_is_integer := fd__law_is_integer, D__law_is_integer := D__law_is_integer, g__law_is_integer := He.glo_ok X G (c.fact 5 rfl),
    fd__law_holds := fd__law_holds, D__law_holds := D__law_holds, g__law_holds := He.glo_ok X G (c.fact 6 rfl),
    fd__law_same := fd__law_same, D__law_same := D__law_same, g__law_same := He.glo_ok X G (c.fact 7 rfl),
    fd_is_integer := fd_is_integer, D_is_integer := D_is_integer, g_is_integer := He.glo_ok X G (c.fact 8 rfl),
    fd_is_from_to := fd_is_from_to, D_is_from_to := D_is_from_to, g_is_from_to := He.glo_ok X G (c.fact 9 rfl),
    fd_checked_row := fd_checked_row, D_checked_row := D_checked_row, g_checked_row := He.glo_ok X G (c.fact 10 rfl),
    fd_checked_costs := fd_checked_costs, D_checked_costs := D_checked_costs, g_checked_costs := He.glo_ok X G (c.fact 11 rfl),
    fd_check_number := fd_check_number, D_check_number := D_check_number, g_check_number := He.glo_ok X G (c.fact 12 rfl),
    fd_checked_cut := fd_checked_cut, D_checked_cut := D_checked_cut, g_checked_cut := He.glo_ok X G (c.fact 13 rfl),
    fd_is_pair_of := fd_is_pair_of, D_is_pair_of := D_is_pair_of, g_is_pair_of := He.glo_ok X G (c.fact 14 rfl),
    fd_top_paper_holds := fd_top_paper_holds, D_top_paper_holds := D_top_paper_holds, g_top_paper_holds := He.glo_ok X G (c.fact 15 rfl),
    fd_stages_needed := fd_stages_needed, D_stages_needed := D_stages_needed, g_stages_needed := He.glo_ok X G (c.fact 16 rfl),
    fd_top_needed := fd_top_needed, D_top_needed := D_top_needed, g_top_needed := He.glo_ok X G (c.fact 17 rfl),
    fd_least_top := fd_least_top, D_least_top := D_least_top, g_least_top := He.glo_ok X G (c.fact 18 rfl),
    fd_shortest_from := fd_shortest_from, D_shortest_from := D_shortest_from, g_shortest_from := He.glo_ok X G (c.fact 19 rfl),
    fd_top_paper := fd_top_paper, D_top_paper := D_top_paper, g_top_paper := He.glo_ok X G (c.fact 20 rfl),
    fd__law_called := fd__law_called, D__law_called := D__law_called, g__law_called := He.glo_ok X G (c.fact 21 rfl),
    fd__law_told := fd__law_told, D__law_told := D__law_told, g__law_told := He.glo_ok X G (c.fact 22 rfl),
    fd__law_judged := fd__law_judged, D__law_judged := D__law_judged, g__law_judged := He.glo_ok X G (c.fact 23 rfl),
    fd__law_small_right := fd__law_small_right, D__law_small_right := D__law_small_right, g__law_small_right := He.glo_ok X G (c.fact 24 rfl),
    fd__law_free_paper := fd__law_free_paper, D__law_free_paper := D__law_free_paper, g__law_free_paper := He.glo_ok X G (c.fact 25 rfl),
    fd__law_odd := fd__law_odd, D__law_odd := D__law_odd, g__law_odd := He.glo_ok X G (c.fact 26 rfl),
    fd__law_changed := fd__law_changed, D__law_changed := D__law_changed, g__law_changed := He.glo_ok X G (c.fact 27 rfl),
    fd__law_papers_right := fd__law_papers_right, D__law_papers_right := D__law_papers_right, g__law_papers_right := He.glo_ok X G (c.fact 28 rfl),
    fd__law_bad_costs := fd__law_bad_costs, D__law_bad_costs := D__law_bad_costs, g__law_bad_costs := He.glo_ok X G (c.fact 29 rfl),
    fd__law_refused := fd__law_refused, D__law_refused := D__law_refused, g__law_refused := He.glo_ok X G (c.fact 30 rfl),
    fd_law := fd_law, D_law := D_law, g_law := He.glo_ok X G (c.fact 31 rfl),
    fd_InvalidNumber := fd_InvalidNumber, D_InvalidNumber := D_InvalidNumber, x_InvalidNumber := ⟨oexB_ok q_InvalidNumber, (He.meth_ok (c.fact 34 (f := .meth "InvalidNumber" "__init__") rfl)).at_, isFn_ty (He.meth_ok (c.fact 34 (f := .meth "InvalidNumber" "__init__") rfl)).fn, (fun f hf => by
      simp only [List.mem_cons, List.not_mem_nil, or_false] at hf
      subst hf
      · exact He.noat_ok (c.fact 35 (f := .noat "InvalidNumber" "number") rfl)
    ), He.glo_ok X G (c.fact 32 rfl)⟩,
    fd_InvalidRow := fd_InvalidRow, D_InvalidRow := D_InvalidRow, x_InvalidRow := ⟨oexB_ok q_InvalidRow, (He.meth_ok (c.fact 36 (f := .meth "InvalidRow" "__init__") rfl)).at_, isFn_ty (He.meth_ok (c.fact 36 (f := .meth "InvalidRow" "__init__") rfl)).fn, (fun f hf => by
      simp only [List.mem_cons, List.not_mem_nil, or_false] at hf
      subst hf
      · exact He.noat_ok (c.fact 37 (f := .noat "InvalidRow" "place") rfl)
    ), He.glo_ok X G (c.fact 33 rfl)⟩,
    g_DealError := He.glo_ok X G (c.fact 38 rfl),
    g_InvalidLoad := He.glo_ok X G (c.fact 39 rfl),
    g_InvalidLot := He.glo_ok X G (c.fact 40 rfl),
    g_InvalidNumber := He.glo_ok X G (c.fact 32 rfl),
    g_InvalidRow := He.glo_ok X G (c.fact 33 rfl),
    c_MOST_COST := He.int_ok X G (c.fact 43 rfl),
    c_MOST_COSTS := He.int_ok X G (c.fact 44 rfl),
    f_bool := He.free_ok X G (c.fact 45 rfl),
    f_enumerate := He.free_ok X G (c.fact 46 rfl),
    f_int := He.free_ok X G (c.fact 47 rfl),
    f_isinstance := He.free_ok X G (c.fact 48 rfl),
    f_len := He.free_ok X G (c.fact 49 rfl),
    f_list := He.free_ok X G (c.fact 50 rfl),
    f_max := He.free_ok X G (c.fact 51 rfl),
    f_min := He.free_ok X G (c.fact 52 rfl),
    f_range := He.free_ok X G (c.fact 53 rfl),
    f_str := He.free_ok X G (c.fact 54 rfl),
    f_sum := He.free_ok X G (c.fact 55 rfl),
    f_tuple := He.free_ok X G (c.fact 56 rfl),
    ex := exB_ok q }⟩
end K02

set_option Elab.async false
set_option linter.all false
set_option maxRecDepth 100000
set_option maxHeartbeats 0
set_option autoImplicit false

namespace K02
open PySem PySem.Spec L2 FL
def loose0 : List Str := ["DealError", "InvalidNumber", "InvalidRow", "InvalidLot", "InvalidLoad", "is_integer", "is_from_to", "check_number", "checked_row", "MOST_COSTS", "MOST_COST", "checked_costs", "checked_cut", "stages_needed", "top_needed", "least_top", "shortest_from", "top_paper", "is_pair_of", "top_paper_holds", "_law_draws", "_law_next", "_law_same", "_law_prices", "_law_least", "_law_paper", "_law_free_paper", "_law_is_integer", "_law_holds", "_law_odd"]
def loose1 : List Str := ["_law_changed", "_law_called", "_law_told", "_law_judged", "_law_papers_right", "_law_small_right", "_law_bad_costs", "_law_refused"]
def loose : List Str := loose0 ++ loose1
abbrev RR : PySem.W.OpenRow := PySem.W.OpenLaw.row PySem.Challenge.rw_everydealt_k02_whole_papers_of_tops
abbrev hk : PySem.W.Hook := hookL 5 fas dfs exq
def ob (s : PySem.W.SharedT) : AlL := obsLG 5 fas dfs exq (HandSHeadRun.getT s)
theorem ob_eq (s : PySem.W.SharedT) : ob s = hk.obs s.abs := obsLG_eq (HandSHeadRun.getT_eq s)
theorem run (w : World) : HandSHeadRun.RunEq RR (PySem.W.view RR.prog [42]) hk ob 20000 loose w := by
  intro os
  kernel_rfl
end K02

set_option Elab.async false
set_option linter.all false
set_option maxRecDepth 100000
set_option maxHeartbeats 0
set_option autoImplicit false

open PySem PySem.W PySem.Calls PyProof.Rows
theorem PySem.Challenge.cw_everydealt_k02_whole_papers_of_tops_holds : PySem.Challenge.rw_everydealt_k02_whole_papers_of_tops.Holds := by
  w_on; o_law
  refine HandSHeadRun.head_any (r := OpenLaw.row PySem.Challenge.rw_everydealt_k02_whole_papers_of_tops) (q := view (OpenLaw.row PySem.Challenge.rw_everydealt_k02_whole_papers_of_tops).prog [42]) (H := K02.hk) (ob := K02.ob) (M := 20000) (loose := K02.loose) (d := HandSHeadRun.topDef (OpenLaw.row PySem.Challenge.rw_everydealt_k02_whole_papers_of_tops).prog 42) (kwd := []) K02.ob_eq
    (by kernel_rfl) (fun s => by kernel_rfl) K02.run (by kernel_rfl) (by kernel_rfl) (by kernel_rfl) (by rfl) (by first | assumption | decide +kernel) (by decide +kernel) ⟨rfl, rfl, rfl, rfl, rfl, by decide +kernel⟩ ?hw ?hc
  case hw => w_witness2
  case hc =>
    refine FL.walk_ofEB (l := PySem.Challenge.rw_everydealt_k02_whole_papers_of_tops) (n := 63) (k := 45) (x := "script") (CX := fun w => L2.CX (PySem.Challenge.rw_everydealt_k02_whole_papers_of_tops).prog w) rfl (by decide) (by kernel_rfl) ⟨rfl, by decide, by decide⟩ ?F (fun w H s e s' h => FL.cx_false _ w H s e s' h)
    intro w mg fa h Y G hmg0
    obtain ⟨K, KX, c⟩ := Y
    have hmg : mg ("law" : PySem.Str) = some (.ref fa) := by
      have e : (HandSHeadRun.topDef (OpenLaw.row PySem.Challenge.rw_everydealt_k02_whole_papers_of_tops).prog 42).name = ("law" : PySem.Str) := by kernel_rfl
      rw [← e]
      exact hmg0
    obtain ⟨E⟩ := K02.ev_of KX G c
    have ef := hmg.symm.trans E.g_law
    cases ef
    exact ⟨K, E.fd_law, FL.spF K 1 K02.F_law, KX, (fun s v => L2.FunD.bindsA (ps := ["script"]) E.D_law (fun _ _ _ _ _ _ us hl => match us, hl with | [_], _ => rfl) s [v] rfl), fun H a ns hl hb hO hS => FL.law_sp (K02.law_true ns hl hb) hO hS, fun base _ _ => K02.ok_law E⟩

